import PyProof.Rows.All
import Wide.All
import OpenK.AllK
import Wide.FinOn
import HandS.Zip
import HandS.SortInts
import HandS.NoneIn
import KE.KSuper
import KE.KExcSuper
import KE.KExcRaise
import HandS.ForSpec
import HandS.FStr
import HandS.ExcCtx
import HandS.HotCalls
import HandS.ForMost
import HandS.Exc
import HandS.WordsExc
import HandS.Conv
import HandS.TupAny
import HandS.TupMul
import HandS.Flow
import HandS.Walk
import HandS.Style
import HandS.Defaults
import HandS.HeadEnd
import HandS.HeadHook2
import HandS.Head2
import HandS.AnyAll
import HandS.WideBits
import HandS.ExcOwn
import HandS.Deep
import HandS.CallSlots
import HandS.Text
import HandS.IsInst
import KE.KTupSum
import KE.KSortedM
import HandS.RepeatKit
import HandS.Nested
import HandS.SetFor
import HandS.Dict
import HandS.ListItems
import PyProof.Rows.SortShell
import PyProof.Calls
import PyProof.WalksPairs
import PyProof.GenCompT
import HandS.EndBits
import HandS.HeadWalk
import HandS.HeadHook4
import KE.BitLaws
import KE.OsArith
import KE.KEqSeq
import KE.KEqDeep
import KE.KStateDown
import HandS.Head0
import HandS.Head1
import PySem.Challenge.RW_psaltery_k40_whole_weaves_and_bursts
set_option Elab.async false
set_option linter.all false
set_option maxRecDepth 100000
set_option maxHeartbeats 0
/-! enumerate over a tuple, sorted of a tuple -/
namespace Dv
open PySem L2 PyProof.Rows
section
open PySem.Sem (wp)
open AutoSeq1 (wpAny_loadPart')
abbrev enH1 (h : Heap) (l : Addr) : Heap := h.push { cls := .type "tuple_iterator", data := .fields #[.ref l, .int 0 0] }
abbrev enH2 (h : Heap) (l : Addr) : Heap := (enH1 h l).push { cls := .type "enumerate", data := .fields #[.none, .bool false, .ref h.objs.size, rawInt 0, .none, .none] }
theorem meets_enumT (l : Addr) (its : Array Value) :
    Meets (Builtin.«enumerate.__new__» ⟨[.type "enumerate", .ref l], []⟩) (fun _ R s => s.heap.IsTuple l its ∧ R (.ok (.ret (.ref (enH1 s.heap l).objs.size))) { s with heap := enH2 s.heap l }) :=
  .of_wp fun prog w A R s h => by
    obtain ⟨hp, g, d, tk, os⟩ := s
    obtain ⟨hT, h⟩ := h
    have hsub := sub_enumerate
    obtain ⟨o, ho, hc, _, hdd⟩ := id hT
    have hL : Heap.IsTuple (Shared.heap ⟨hp, g, d, tk, os⟩) l its := hT
    wp_walk using wpAny_loadPart' ho
    refine wpAny_stack_any fun st => wpAny_pure ?_
    split
    · rename_i c _ _ _ _ _
      cases (c == Value.type "enumerate") <;>
      · wp_walk using wpAny_loadPart' ho, wpAny_pyIter_tuple hL
        exact ⟨_, rfl, h⟩
    · wp_walk using wpAny_loadPart' ho, wpAny_pyIter_tuple hL
      exact ⟨_, rfl, h⟩
variable {prog : Program} {w : World} {A : Around} {E : Value → Shared → Prop} {s : Shared}
theorem call_enumT {l : Addr} {its : Array Value} {Q : Value → Shared → Prop} (hT : s.heap.IsTuple l its)
    (h : ∀ h', IsEnum h' (s.heap.objs.size + 1) s.heap.objs.size 0 .none → h'.IsTupleIter s.heap.objs.size l 0 → h'.objs.size = s.heap.objs.size + 2 →
      (∀ b o, s.heap.get? b = some o → h'.get? b = some o) → Q (.ref (s.heap.objs.size + 1)) { s with heap := h' }) :
    wpAny (model prog w) A (call (.type "enumerate") [.ref l]) Q E s := by
  refine callType_new F.called_enumerate (by decide) (F.typeCall_enumerate_1 _) (F.newCall_enumerate_1 _) (fun o => F.args_object_init_2 o _) F.entry_enumerate_new (meets_enumT l its) ⟨hT, ?_⟩
  have hz : (enH1 s.heap l).objs.size = s.heap.objs.size + 1 := Heap.size_push ..
  show _ ∧ _
  rw [hz]
  have he : IsEnum (enH2 s.heap l) (s.heap.objs.size + 1) s.heap.objs.size 0 .none := by
    have q := Heap.get?_push_size (enH1 s.heap l) (o := { cls := .type "enumerate", data := .fields #[.none, .bool false, .ref s.heap.objs.size, rawInt 0, .none, .none] }) rfl
    rw [hz] at q; exact q
  refine ⟨⟨_, he, rfl⟩, h _ he ⟨_, Heap.get?_push_of_some _ (Heap.get?_push_size _ rfl), rfl, rfl⟩ ?_ fun b o q => Heap.get?_push_of_some _ (Heap.get?_push_of_some _ q)⟩
  show (enH2 s.heap l).objs.size = _
  rw [Heap.size_push, hz]
theorem enumT_next {e it l : Addr} {i : Nat} {its : Array Value} {x old : Value} {Q : Value → Shared → Prop}
    (he : IsEnum s.heap e it i old) (hit : s.heap.IsTupleIter it l i) (hl : s.heap.IsTuple l its) (hx : its[i]? = some x) (hne : e ≠ it)
    (hQ : ∀ h', IsEnumOut h' e it ((i : Int) + 1) x s.heap.objs.size → h'.IsTupleIter it l (i + 1) →
      h'.get? s.heap.objs.size = some { cls := .type "tuple", data := .seq #[.int i s.toks, x] } → h'.objs.size = s.heap.objs.size + 1 →
      (∀ b o, b ≠ e → b ≠ it → s.heap.get? b = some o → h'.get? b = some o) → Q (.ref s.heap.objs.size) { s with heap := h', toks := s.toks + 1 }) :
    wpAny (model prog w) A (Builtin.«enumerate.__next__» ⟨[.ref e], []⟩) (fun fin s' => ∃ v, fin = .done (.ret v) ∧ Q v s') E s := by
  obtain ⟨hp, g, d, tk, os⟩ := s
  show wpAny _ _ (field (.ref e) 2 >>= _) _ _ _
  refine wpAny_bind (wpAny_field he rfl (x := .ref it) rfl ?_)
  refine wpAny_bind (RZ.nextOf_tuple_item hit hl hx fun a1 b1 c1 => ?_)
  replace c1 : Heap.SameBut it hp a1 := c1
  have d1 : IsEnum a1 e it i old := (c1.2 e hne).trans he
  show wpAny _ _ (field (.ref e) 3 >>= _) _ _ ⟨a1, g, d, tk, os⟩
  refine wpAny_bind (wpAny_field d1 rfl (x := rawInt i) rfl ?_)
  show wpAny _ _ (field (.ref e) 4 >>= _) _ _ ⟨a1, g, d, tk, os⟩
  refine wpAny_bind (wpAny_field d1 rfl (x := .none) rfl ?_)
  show wpAny _ _ (mkInt i >>= _) _ _ ⟨a1, g, d, tk, os⟩
  refine wpAny_bind (wpAny_mkInt ?_)
  show wpAny _ _ (setField (.ref e) 3 (rawInt ((i : Int) + 1)) >>= _) _ _ ⟨a1, g, d, tk + 1, os⟩
  refine wpAny_bind (wpAny_setField_rec d1 (by simp) fun a2 d2 c2 => ?_)
  replace c2 : Heap.SameBut e a1 a2 := c2
  replace d2 : IsEnum a2 e it ((i : Int) + 1) old := d2
  show wpAny _ _ (setField (.ref e) 4 .none >>= _) _ _ ⟨a2, g, d, tk + 1, os⟩
  refine wpAny_bind (wpAny_setField_rec d2 (by simp) fun a3 d3 c3 => ?_)
  replace c3 : Heap.SameBut e a2 a3 := c3
  replace d3 : IsEnum a3 e it ((i : Int) + 1) old := d3
  show wpAny _ _ (newTuple [.int i tk, x] >>= _) _ _ ⟨a3, g, d, tk + 1, os⟩
  refine wpAny_bind (wpAny_newTuple ?_)
  have d4 : IsEnum (a3.push { cls := .type "tuple", data := .seq #[.int i tk, x] }) e it ((i : Int) + 1) old := Heap.get?_push_of_some _ d3
  generalize hh4 : a3.push { cls := .type "tuple", data := .seq #[.int i tk, x] } = a4 at d4
  have hsz : a3.objs.size = hp.objs.size := by rw [c3.1, c2.1, c1.1]
  have hel : e < hp.objs.size := Heap.lt_size he
  have t4 : a4.get? hp.objs.size = some { cls := .type "tuple", data := .seq #[.int i tk, x] } := by rw [← hh4, ← hsz]; exact Heap.get?_push_size _ rfl
  have z4 : a4.objs.size = hp.objs.size + 1 := by rw [← hh4, Heap.size_push, hsz]
  have k4 : ∀ b o, b ≠ e → b ≠ it → hp.get? b = some o → a4.get? b = some o := fun b o hbe hbi hb => by
    rw [← hh4]; exact Heap.get?_push_of_some _ (c3.extBut b o hbe (c2.extBut b o hbe (c1.extBut b o hbi hb)))
  have i4 : a4.IsTupleIter it l (i + 1) := by
    rw [← hh4]; obtain ⟨o, ho, r⟩ := (b1.extBut c2.extBut (Ne.symm hne)).extBut c3.extBut (Ne.symm hne); exact ⟨o, Heap.get?_push_of_some _ ho, r⟩
  show wpAny _ _ (Builtin.SmallTypes.ownedTupleIsFree (.ref e) >>= _) _ _ ⟨a4, g, d, tk + 1, os⟩
  rw [hsz]
  clear hh4 d3 c3 d2 c2 d1 c1 b1 hsz a3 a2 a1
  refine wpAny_bind ?_
  · unfold Builtin.SmallTypes.ownedTupleIsFree
    refine wpAny_bind (wpAny_field d4 rfl (x := .none) rfl (wpAny_pure ?_))
    simp only [if_true]
    refine wpAny_bind (wpAny_rule ?_)
    refine wpAny_bind (wpAny_field d4 rfl (x := old) rfl ?_)
    refine wpAny_bind (wpAny_setField_rec d4 (by simp) fun a5 d5 c5 => ?_)
    replace c5 : Heap.SameBut e a4 a5 := c5
    replace d5 : IsEnum a5 e it ((i : Int) + 1) x := d5
    show wpAny _ _ (Builtin.SmallTypes.ownedTupleHandOut (.ref e) (.ref hp.objs.size) >>= _) _ _ ⟨a5, g, d, tk + 1, os⟩
    refine wpAny_bind ?_
    · unfold Builtin.SmallTypes.ownedTupleHandOut
      refine wpAny_bind (wpAny_setField_rec d5 (by simp) fun a6 d6 c6 => ?_)
      replace c6 : Heap.SameBut e a5 a6 := c6
      replace d6 : IsEnumOut a6 e it ((i : Int) + 1) x hp.objs.size := d6
      refine wpAny_setField_rec d6 (by simp) fun a7 d7 c7 => ?_
      replace c7 : Heap.SameBut e a6 a7 := c7
      replace d7 : IsEnumOut a7 e it ((i : Int) + 1) x hp.objs.size := d7
      refine wpAny_bind (wpAny_letGo (wpAny_pure ⟨_, rfl, hQ a7 d7 ?_ ?_ ?_ ?_⟩))
      · exact ((i4.extBut c5.extBut (Ne.symm hne)).extBut c6.extBut (Ne.symm hne)).extBut c7.extBut (Ne.symm hne)
      · exact c7.extBut _ _ (Nat.ne_of_gt hel) (c6.extBut _ _ (Nat.ne_of_gt hel) (c5.extBut _ _ (Nat.ne_of_gt hel) t4))
      · rw [c7.1, c6.1, c5.1, z4]
      · exact fun b o hbe hbi hb => c7.extBut b o hbe (c6.extBut b o hbe (c5.extBut b o hbe (k4 b o hbe hbi hb)))
theorem pyNext_enumT {e it l : Addr} {i : Nat} {its : Array Value} {x old : Value} {Q : Option Value → Shared → Prop}
    (he : IsEnum s.heap e it i old) (hit : s.heap.IsTupleIter it l i) (hl : s.heap.IsTuple l its) (hx : its[i]? = some x) (hne : e ≠ it)
    (hQ : ∀ h', IsEnumOut h' e it ((i : Int) + 1) x s.heap.objs.size → h'.IsTupleIter it l (i + 1) →
      h'.get? s.heap.objs.size = some { cls := .type "tuple", data := .seq #[.int i s.toks, x] } → h'.objs.size = s.heap.objs.size + 1 →
      (∀ b o, b ≠ e → b ≠ it → s.heap.get? b = some o → h'.get? b = some o) → Q (some (.ref s.heap.objs.size)) { s with heap := h', toks := s.toks + 1 }) :
    wpAny (model prog w) A (pyNext (.ref e)) Q E s := by
  have hT : s.TypeIs (.ref e) "enumerate" := ⟨_, he, rfl⟩
  unfold pyNext
  exact wpAny_bind (wpAny_attempt (wpAny_callSpecial?_slot (name := Str.ofString "__next__") hT F.slot_enumerate_next
    (wpAny_call_entry F.slot_enumerate_next hT F.entry_enumerate_next (enumT_next he hit hl hx hne fun a a1 a2 a3 a4 a5 => wpAny_pure (hQ a a1 a2 a3 a4 a5)) (F.args_enumerate_next_1 _))))
theorem pyNext_enumT_end {e it l : Addr} {i : Nat} {its : Array Value} {old : Value} {Q : Option Value → Shared → Prop} (hh : A.handled = none)
    (he : IsEnum s.heap e it i old) (hit : s.heap.IsTupleIter it l i) (hl : s.heap.IsTuple l its) (hx : its[i]? = none)
    (hQ : ∀ h', Heap.ExtBut it s.heap h' → Q none { s with heap := h' }) : wpAny (model prog w) A (pyNext (.ref e)) Q E s := by
  have hT : s.TypeIs (.ref e) "enumerate" := ⟨_, he, rfl⟩
  unfold pyNext
  refine wpAny_bind (wpAny_attempt (wpAny_callSpecial?_slot (name := Str.ofString "__next__") hT F.slot_enumerate_next
    (wpAny_call_entry F.slot_enumerate_next hT F.entry_enumerate_next ?_ (F.args_enumerate_next_1 _))))
  show wpAny _ _ (field (.ref e) 2 >>= _) _ _ _
  refine wpAny_bind (wpAny_field he rfl (x := .ref it) rfl ?_)
  refine wpAny_bind (RZ.nextOf_tuple_end hh hit hl hx fun a y c1 c2 => ?_)
  obtain ⟨o, ho, hc⟩ := c2
  exact wpAny_bind (wpAny_isInstance (T := "StopIteration") (b := true) ⟨o, ho, hc⟩ isSubtype_stop (wpAny_pure (hQ _ c1)))
end
/-- the tuple at a, each item in a new pair -/
def ItT (K : PySem.W.Frag) (a : Addr) : It :=
  ⟨fun i H => ∃ (xs : List V) (x : V), SqT K H a xs ∧ xs[i]? = some x,
   fun i H v H' => ∃ T x, v = .ref T ∧ H T = none ∧ H' = upd H T (.tup [.int (i : Nat), x]) ∧ ∀ xs, SqT K H a xs → xs[i]? = some x,
   fun i H => ∃ xs : List V, SqT K H a xs ∧ xs.length ≤ i⟩
theorem turn_enT {P : Program} {w : World} {K : PySem.W.Frag} {elts : List Expr} {kk : Nat} {tpos : Pos} (a e it : Addr) :
    Turn P w K (.Tuple elts kk tpos) (ItT K a) [e, it] e (fun i h => (∃ old, IsEnum h e it ((i : Nat) : Int) old) ∧ h.IsTupleIter it a i ∧ e ≠ it) where
  mem := by simp
  obj := fun i h st b hb => by
    obtain ⟨⟨old, he⟩, ⟨o, ho, hc, hd⟩, _⟩ := st
    have e' : b = e ∨ b = it := by simpa using hb
    rcases e' with z | z <;> rw [z]
    · exact ⟨_, he, fun v q => nomatch q⟩
    · exact ⟨o, ho, fun v q => by rw [hd] at q; cases q⟩
  keep := fun i h h' st k => let ⟨⟨old, he⟩, hi, hne⟩ := st; ⟨⟨old, k e (by simp) _ he⟩, hi.at fun o q => k it (by simp) o q, hne⟩
  item := by
    intro X hP hw hK hc i pins s σ H E I hf st hg
    subst hP hw hK
    obtain ⟨⟨old, he⟩, hit, hne⟩ := st
    obtain ⟨xs, x, hq, hx⟩ := hg
    obtain ⟨its, rv, p, hz⟩ := I.tuple hq
    obtain ⟨u, hu, ru⟩ := rv.get hx
    have hel : e < s.heap.objs.size := Heap.lt_size he
    have hil : it < s.heap.objs.size := by obtain ⟨_, q, _⟩ := hit; exact Heap.lt_size q
    refine pyNext_enumT he hit p (x := u) (by simpa using hu) hne fun h' ho hit' hT hsz hk => ?_
    refine ⟨_, rfl, wpAny_letOwnedTupleGo_enum (s := { s with heap := h', toks := s.toks + 1 }) ho fun h'' he' sb => ?_⟩
    have hT2 : h''.get? s.heap.objs.size = some { cls := .type "tuple", data := .seq #[.int i s.toks, u] } := (sb.2 _ (Nat.ne_of_gt hel)).trans hT
    have new : ObjOk X.prog X.w (upd H s.heap.objs.size (.tup [.int (i : Nat), x])) h'' s.heap.objs.size (.tup [.int (i : Nat), x]) :=
      ⟨by show 2 ≤ sizeLine; decide, [.int i s.toks, u], .cons ⟨_, rfl⟩ (.cons ru .nil), ⟨_, hT2, rfl, _, rfl⟩⟩
    have I1 : Inv X pins σ (upd H s.heap.objs.size (.tup [.int (i : Nat), x])) { s with heap := h'', toks := s.toks + 1 } :=
      I.turnedNew (ch := [e, it]) (fun b ob hb q => (sb.2 b (fun z => hb (by simp [z]))).trans (hk b ob (fun z => hb (by simp [z])) (fun z => hb (by simp [z])) q)) hf (Nat.le_refl _) new
    refine ⟨.ref s.heap.objs.size, _, I1, rfl, ⟨_, x, rfl, I.hok.fresh (Nat.le_refl _), rfl, fun ys hy => by rw [I.tuple_inj hy hq]; exact hx⟩, ⟨⟨u, ?_⟩, hit'.at fun o q => (sb.2 it (Ne.symm hne)).trans q, hne⟩, fun b hb => ?_⟩
    · have e1 : ((i + 1 : Nat) : Int) = (i : Int) + 1 := by omega
      rw [e1]; exact he'
    · have hb' : b < s.heap.objs.size := by
        have e' : b = e ∨ b = it := by simpa using hb
        rcases e' with z | z <;> rw [z]
        · exact hel
        · exact hil
      rw [upd_ne (Nat.ne_of_lt hb')]
      exact (hf b hb).1
  done := by
    intro X hP hw hK hc i pins s σ H E I hf st hg
    subst hP hw hK
    obtain ⟨⟨old, he⟩, hit, hne⟩ := st
    obtain ⟨xs, hq, hx⟩ := hg
    obtain ⟨its, rv, p, hz⟩ := I.tuple hq
    obtain ⟨f0, f1, f2, f3, f4, f5⟩ := hf it (by simp)
    have hl := rv.length
    exact pyNext_enumT_end (I.ok.hd hc) he hit p (by simp; omega) fun h' eb => ⟨rfl, I.turned (t' := s.toks) (fun b o hb q => eb b o hb q) f0 f1 f3 f4 f5⟩
  self := fun A i s Q E st h => let ⟨⟨_, he⟩, _⟩ := st; wpAny_pyIter_enum he h
def iEnA (K : PySem.W.Frag) (ta : TA) : TI := fun σ H R => ta σ H fun vs H1 => ∃ a xs, vs = [.ref a] ∧ ((SqL K H1 a xs ∧ R (Ite K a) H1) ∨ (SqT K H1 a xs ∧ R (ItT K a) H1))
theorem pi_enA {X : Cx} {e : Expr} {ta : TA} {p pos tpos : Pos} {elts : List Expr} {kk : Nat} (hg : Gl X "enumerate") (hm : X.mg "enumerate" = none) (ha : PA X [e] ta) (hs : starEach [e] X.env = [(false, eval e X.env)]) :
    PI X (.Tuple elts kk tpos) (.Call (.Name "enumerate" p) [e] [] pos) (iEnA X.K ta) := by
  refine ⟨fun pins s σ H R I h => ?_⟩
  refine Call_ (ld_blt I hg hm boot_enumerate (PyProof.Rows.callWith_type1 (thn (ha.run pos pins s σ H _ I h) fun us s1 ⟨vs, H1, I1, r1, q1⟩ => ?_) hs rfl))
  obtain ⟨a, xs, ex, q1⟩ := q1
  subst ex
  cases r1 with
  | cons r rr =>
    cases rr
    cases r
    have fr2 : ∀ b, b ∈ [s1.heap.objs.size + 1, s1.heap.objs.size] → FpOk X pins H1 b := fun b hb => by
      have e' : b = s1.heap.objs.size + 1 ∨ b = s1.heap.objs.size := by simpa using hb
      have hle : s1.heap.objs.size ≤ b := by omega
      exact I1.fpOk hle (I1.hok.fresh hle)
    rcases q1 with ⟨hq, q⟩ | ⟨hq, q⟩
    · obtain ⟨its, rv, p', hz⟩ := I1.list hq
      refine call_enumerate_list p'.isList fun h' he hit hsz hk => wpAny_pyIter_enum he ?_
      exact ⟨s1.heap.objs.size + 1, [s1.heap.objs.size + 1, s1.heap.objs.size], _, _, H1, rfl, I1.kept (t' := s1.toks) hk, turn_enum a (s1.heap.objs.size + 1) s1.heap.objs.size, ⟨⟨.none, he⟩, hit, Nat.succ_ne_self _⟩, fr2, q⟩
    · obtain ⟨its, rv, p', hz⟩ := I1.tuple hq
      refine call_enumT p' fun h' he hit hsz hk => wpAny_pyIter_enum he ?_
      exact ⟨s1.heap.objs.size + 1, [s1.heap.objs.size + 1, s1.heap.objs.size], _, _, H1, rfl, I1.kept (t' := s1.toks) hk, turn_enT a (s1.heap.objs.size + 1) s1.heap.objs.size, ⟨⟨.none, he⟩, hit, Nat.succ_ne_self _⟩, fr2, q⟩

/-! ### sorted of a tuple of ints -/
section
variable {prog : Program} {w : World} {A : Around} {E : Value → Shared → Prop} {s : Shared}
theorem collect_tup {l : Addr} {vs : List Value} {Q : List Value → Shared → Prop} (hl : s.heap.IsTuple l vs.toArray)
    (h : Q vs { s with heap := (s.heap.push (seqObj "list" #[] 0)).update s.heap.objs.size (Obj.mapSeq (· ++ vs.toArray)) }) (hsz : vs.length ≤ sizeLine) :
    wpAny (model prog w) A (collect (.ref l)) Q E s := by
  obtain ⟨o, ho, hc, n, hd⟩ := id hl
  unfold collect
  refine wpAny_bind (wpAny_runValue (codeAny_builtin entry_proto_collect' ?_))
  show wpAny _ _ (do again (.builtin "list.__iadd__" ⟨[← newList [], .ref l], []⟩)) _ _ s
  refine wpAny_bind (wpAny_newList (wpAny_pure ⟨Code.quiet_builtin _ (by decide +kernel), codeAny_builtin entry_list_iadd' ?_⟩))
  show wpAny _ _ (Builtin.List.listExtendWith (.ref s.heap.objs.size) (.ref l) (.ref s.heap.objs.size)) _ _ { s with heap := s.heap.push (seqObj "list" #[] 0) }
  unfold Builtin.List.listExtendWith
  have ho' : (s.heap.push (seqObj "list" #[] 0)).get? l = some o := Heap.get?_push_of_some _ ho
  refine wpAny_bind (wpAny_typeOf (T := "tuple") ⟨o, ho', hc⟩ ?_)
  have ht : (Value.type "tuple" == Value.type "tuple") = true := by rfl
  rw [if_pos (by rw [ht]; simp)]
  refine wpAny_bind (listItems_at ho' hd ?_)
  refine wpAny_bind (listItems_at (xs := #[]) (n := 0) (Heap.get?_push_size _ rfl) rfl ?_)
  rw [if_neg (by simp)]
  refine wpAny_bind (listUpdate_at (xs := #[]) (n := 0) (Heap.get?_push_size _ rfl) rfl ?_ (Nat.zero_le _) (by show (#[] ++ vs.toArray).size ≤ sizeLine + 1; simp only [Array.size_append, List.size_toArray, List.length_nil]; omega))
  refine wpAny_pure ?_
  show wpAny (model prog w) A (do
      let o ← load s.heap.objs.size
      match o.data with
      | .seq xs _ => pure xs.toList
      | _ => unsupported "internal:collect") Q E { s with heap := (s.heap.push (seqObj "list" #[] 0)).update s.heap.objs.size (Obj.mapSeq (· ++ vs.toArray)) }
  refine wpAny_bind (wpAny_load (get?_update_seq (Heap.get?_push_size _ rfl) _) ?_)
  show wpAny _ _ (pure ((#[] : Array Value) ++ vs.toArray).toList) Q E _
  rw [show ((#[] : Array Value) ++ vs.toArray).toList = vs by simp]
  exact wpAny_pure h
open SrtO in
theorem sorted_tup {l : Addr} {vs : List Value} {ltv : Value → Value → Bool} {Q : Value → Shared → Prop} (O : Swo ltv) (hl : s.heap.IsTuple l vs.toArray) (hz : vs.length ≤ sizeLine)
    (hS : 2 ≤ vs.length → ∀ (h₁ : Heap) (a : Addr), h₁.get? a = some (seqObj "list" vs.toArray 0) → (∀ b o, s.heap.get? b = some o → b ≠ a ∧ h₁.get? b = some o) → SortableO prog w A.in1.in1 { s with heap := h₁ } a vs ltv)
    (h : ∀ out : List Value, Srtd ltv out → Stb ltv out vs → Q (.ref (s.heap.objs.size + 1)) { s with heap := sortedAll s.heap vs out.toArray }) :
    wpAny (model prog w) A (call (.builtin "sorted") [.ref l]) Q E s := by
  refine Calls.call_function_entry kind_sorted plain_sorted entry_sorted (args_sorted1 _) ?_
  unfold Builtin.«sorted»
  refine wpAny_bind (m := checkCount "sorted" 1 1 _) (wpAny_pure ?_)
  refine wpAny_bind (collect_tup hl ?_ hz)
  refine wpAny_bind (wpAny_newList ?_ hz)
  have hsz : ((s.heap.push (seqObj "list" #[] 0)).update s.heap.objs.size (Obj.mapSeq (· ++ vs.toArray))).objs.size = s.heap.objs.size + 1 := by
    rw [Heap.size_update, size_push']
  have hoL : (((s.heap.push (seqObj "list" #[] 0)).update s.heap.objs.size (Obj.mapSeq (· ++ vs.toArray))).push (seqObj "list" vs.toArray 0)).get? (s.heap.objs.size + 1) = some (seqObj "list" vs.toArray 0) := by
    rw [← hsz]; exact Heap.get?_push_size _ rfl
  have keep : ∀ b o, s.heap.get? b = some o → b ≠ s.heap.objs.size + 1 ∧ (((s.heap.push (seqObj "list" #[] 0)).update s.heap.objs.size (Obj.mapSeq (· ++ vs.toArray))).push (seqObj "list" vs.toArray 0)).get? b = some o := fun b o q => by
    have hlt : b < s.heap.objs.size := Heap.lt_size q
    refine ⟨Nat.ne_of_lt (Nat.lt_succ_of_lt hlt), Heap.get?_push_of_some _ ?_⟩
    rw [Heap.get?_update_ne _ _ _ _ (Nat.ne_of_lt hlt)]
    exact Heap.get?_push_of_some _ q
  show wpAny _ _ _ _ _ { s with heap := ((s.heap.push (seqObj "list" #[] 0)).update s.heap.objs.size (Obj.mapSeq (· ++ vs.toArray))).push (seqObj "list" vs.toArray 0) }
  rw [hsz]
  refine wpAny_bind (wpAny_holding (wpAny_call_entry slot_list_sort ⟨_, hoL, rfl⟩ entry_list_sort (list_sort_ord O hoL hz (fun h2 => hS h2 _ _ hoL keep) fun out hs hb => ⟨_, rfl, ?_⟩) (args_list_sort _)))
  exact wpAny_pure ⟨_, rfl, h out hs hb⟩
end
def rSortT (K : PySem.W.Frag) : List V → Hp → VK → Prop := fun vs H Q => ∃ (a : Addr) (ns : List Int), vs = [V.ref a] ∧ SqT K H a (ns.map V.int) ∧
  ∀ (ns' : List Int) (p : Addr), ns'.Perm ns → ns'.Pairwise (· ≤ ·) → H p = none → Q (.ref p) (upd H p (.lst (ns'.map V.int)))
theorem cr_sortTup {X : Cx} : CallR X (.builtin "sorted") (rSortT X.K) := by
  intro pins s σ H vs us Q I r h
  obtain ⟨a, ns, rfl, hs, q⟩ := h
  obtain ⟨its, rv, hl, hz⟩ := I.tuple hs
  rw [Vals.ref1 r]
  have hi := rv.ints
  refine sorted_tup SrtO.swo_int hl (by rw [← rv.length]; exact hz) (fun h2 h₁ a' _ _ => SrtO.ints_sortable hi h2) fun out h1 h2 => ?_
  obtain ⟨k1, k2, k3⟩ := SrtO.ints_out hi h1 h2
  obtain ⟨ep, he'⟩ := PyProof.Rows.sortedAll_at s.heap its out.toArray
  have hlen : ((out.map SrtO.iv).map V.int).length ≤ sizeLine := by
    rw [List.length_map, k2.length_eq]
    rw [List.length_map] at hz
    exact hz
  exact ⟨.ref _, upd H (s.heap.objs.size + 1) (.lst ((out.map SrtO.iv).map V.int)), I.laid (t' := s.toks) (fun _ _ => PyProof.Rows.sortedAll_old) (Nat.le_succ _) ⟨hlen, out, ep, vals_of_ints k1, he'⟩, rfl, q _ _ k2 k3 (I.hok.fresh (Nat.le_succ _))⟩
/-- sorted(xs), a list or a tuple of ints -/
theorem cr_sortBoth {X : Cx} : CallR X (.builtin "sorted") (fun vs H Q => rSortedI X.K vs H Q ∨ rSortT X.K vs H Q) := by
  intro pins s σ H vs us Q I r h
  rcases h with h | h
  · exact cr_sortedI pins s σ H vs us Q I r h
  · exact cr_sortTup pins s σ H vs us Q I r h
/-- (a, b, ..) = a tuple or a list of that length -/
def gSeq (K : PySem.W.Frag) (n : Nat) (t : TGs) : TG := fun v σ H Q => gTup K n t v σ H Q ∨ gUnl K n t v σ H Q
theorem pg_seq {X : Cx} {pos : Pos} {es : List Expr} {k : Nat} {t : TGs} {n : Nat} (hc : X.calm = true) (h : PGs X es t)
    (hn : (assignEach es X.env).length = n) (hst : (assignEach es X.env).findIdx? (·.1) = none) : PG X (.Tuple es k pos) (gSeq X.K n t) := by
  refine ⟨fun pins s σ H v u Q I r hw => ?_⟩
  rcases hw with hw | hw
  · exact (pg_tup hc h hn hst).run pins s σ H v u Q I r hw
  · exact (pg_unl hc h hn hst).run pins s σ H v u Q I r hw
end Dv
/-! An own error over own classes over ValueError, whose __init__ says super().__init__(f"{thing!r}..") and keeps the thing. -/
namespace PySem
namespace DamX
open PySem.W PySem.Calls PyProof.Rows PySem.HandSPX
def iA (p1 p2 : Pos) : Arguments := { posonlyargs := [], args := [{ arg := "self", annotation := none, pos := p1 }, { arg := "thing", annotation := none, pos := p2 }], vararg := none, kwonlyargs := [], kw_defaults := [], kwarg := none, defaults := [] }
def iE (m : Str) (k : Nat) (q4 q5 q6 q7 : Pos) : Expr := .JoinedStr [.FormattedValue (.Name "thing" q4) 114 none q5, .Constant (.str m) k q6] q7
def iB (m : Str) (k : Nat) (q1 q2 q3 q4 q5 q6 q7 q8 q9 q10 q11 q12 q13 : Pos) : List Stmt :=
  [.Expr (.Call (.Attribute (.Call (.Name "super" q1) [] [] q2) "__init__" q3) [iE m k q4 q5 q6 q7] [] q8) q9, .Assign [.Attribute (.Name "self" q10) "thing" q11] (.Name "thing" q12) q13]
def iS : Scope := { kind := .function, names := [(PySem.Str.ofString "self", .local), (PySem.Str.ofString "thing", .local), (PySem.Str.ofString "__class__", .free), (PySem.Str.ofString "super", .globalImplicit)], isGenerator := false, isCoroutine := false, more := [] }
/-- what the written part says of the class x, at C, and of its __init__, at fI -/
structure Txt (K : Frag) (mg : Str → Option Value) (prog : Program) (x : Str) (C fI : Addr) : Prop where
  gC : mg x = some (.ref C)
  gS : mg "super" = none
  cls : ∃ nm q N bs bm sn sub ab col dd k0 k1 k2 k3 k5, K.lookup C = some (excClassObj nm q C N bs bm true sn sub ab col dd k0 k1 k2 k3 k5 "ValueError.__new__") ∧ refsVE bm = true
  sa : findIn K (.ref C) "__setattr__" = some (some (.builtin "object.__setattr__"))
  ga : findIn K (.ref C) "__getattribute__" = some (some (.builtin "BaseException.__getattribute__"))
  gg : findIn K (.ref C) "__getattr__" = some none
  noN : findIn K (.ref C) "thing" = some none
  iC : findIn K (.ref C) "__init__" = some (some (.ref fI))
  tC : typeIn K (.ref fI) = some (.type "function")
  kC : keepIn K (.ref C) = true
  exC : subIn K (.ref C) (.type "BaseException") = some true
  veC : subIn K (.ref C) (.type "ValueError") = some true
  tyC : typeIn K (.ref C) = some (.type "type")
  hdC : hasDictIn K C = true
  mro : mroIn K C (.ref C) = some true
  sup : ks_superIn K C C "__init__" = some (some (.builtin "ValueError.__init__"))
  opq : nsIn K cStatics "thirdparty.any" = some none
  exi : excInitIn K C [.type "ValueError", .type "Exception", .type "BaseException", .type "object"] "ValueError.__new__" = true
  fn : ∃ (oc : Value) (od : Option Addr) (q : Str) (doc pm : Value) (an : Option Addr) (cda cc : Addr) (ct : Value) (osl : Array (Option Value)) (m : Str) (k : Nat) (p1 p2 q1 q2 q3 q4 q5 q6 q7 q8 q9 q10 q11 q12 q13 : Pos),
    K.lookup fI = some ⟨oc, od, .func (ksFn "__init__" q (iA p1 p2) (iB m k q1 q2 q3 q4 q5 q6 q7 q8 q9 q10 q11 q12 q13) iS .none .none doc pm an (.ref cda) ct cc), osl⟩ ∧ codeIn K (.ref cda) q = true ∧ m.length ≤ 1000 ∧ (q3.endLine == q8.line) = true ∧
    (∃ ccl cdd vs ccs file tf, K.lookup cda = some ⟨ccl, cdd, .fields vs, ccs⟩ ∧ vs[2]? = some (.str file tf) ∧ ((prog.main.file : Str) == file) = true) ∧
    (∃ cl cld csl, K.lookup cc = some ⟨cl, cld, .cell (some (.ref C)), csl⟩)
  top : (prog.main.scope.names.lookup ("super" : Str)).isSome = false
/-- what __init__ leaves of a fresh exception at x -/
structure InitEnd (h h' : Heap) (x C dx t1 : Addr) (v : Value) : Prop where
  keep : ∀ b o, b ≠ x → h.get? b = some o → h'.get? b = some o
  obj : h'.get? x = some { cls := .ref C, dict := some dx, data := .fields #[.ref t1, .none, .none, .none, .bool false, .none] }
  dbig : h.objs.size ≤ dx
  dne : dx ≠ x
  ns : h'.Ns1 dx (fun y => if y = "thing" then some v else none)
structure OwnMade (h h' : Heap) (e C d : Addr) (v : Value) : Prop where
  keep : ∀ b o, h.get? b = some o → h'.get? b = some o
  new : h.objs.size ≤ e
  obj : ∃ oe vs, h'.get? e = some oe ∧ oe.cls = .ref C ∧ oe.dict = some d ∧ oe.data = .fields vs ∧ vs[1]? = some .none ∧ vs[2]? = some .none
  dbig : h.objs.size ≤ d
  dne : d ≠ e
  ns : h'.Ns1 d (fun y => if y = "thing" then some v else none)
theorem boot_super : bootBuiltins "super" = some (.type "super") := by kernel_rfl
section
variable {prog : Program} {w : World} {A : Around} {E : Value → Shared → Prop} {s : Shared} {h₀ : Heap} {L : Addr} {m mg mb : Str → Option Value} {news : List (Addr × Obj)} {K : Frag} {x C D f cc cda : Addr} {ox : Obj} {odx : Option Obj}
theorem sup_node {body : List Stmt} {q : Str} {scope : Scope} {p0 p1 : Pos} {attr : Str} {whole : Sem Value} {fd : FuncData} {ar : Arg} {vs : Array Value} {file : Str} {tf : Tok} {oc ccl cl : Value} {od cdd cld : Option Addr} {osl ccs csl : Array (Option Value)} {cdD : ClassData} {Q : Value → Shared → Prop}
    (F : Fr h₀ L s.heap m) (X₀ : K.In h₀) (N : News h₀ L s.heap news) (G : s.heap.Ns mainGlobals mg) (hsuper : mg "super" = none) (B : s.heap.Ns builtinsNs mb) (hbt : mb "super" = some (.type "super"))
    (hf : K.lookup f = some ⟨oc, od, .func fd, osl⟩) (hp : (fd.params.posonlyargs ++ fd.params.args).head? = some ar) (hv : m ar.arg = some (.ref x)) (I : InstAt s.heap x ox C odx)
    (hcode : K.lookup cda = some ⟨ccl, cdd, .fields vs, ccs⟩) (hvs : vs[2]? = some (.str file tf)) (hfile : ((prog.main.file : Str) == file) = true)
    (hcell : K.lookup cc = some ⟨cl, cld, .cell (some (.ref D)), csl⟩) (hD : clsIn K D = some cdD) (hsub : mroIn K C (.ref D) = some true)
    (hat : (attr == ("__class__" : Str)) = false) (hks : scope.names.lookup ("super" : Str) = some .globalImplicit) (hkc : scope.names.lookup ("__class__" : Str) = some .free) (hka : scope.names.lookup ar.arg = some .local) (hk : scope.kind = .function)
    (htop : (prog.main.scope.names.lookup ("super" : Str)).isSome = false)
    (h : ∀ so h', Fr h₀ L h' m → News h₀ L h' ((so, ks_superObj D x C) :: news) → (∀ p ∈ news, p.1 < so) → Q (.ref so) { s with heap := h' }) :
    _root_.PySem.wpAt (model prog w) A (.func body (ksEnv q scope L f (.ref cda) cc)) (attributeBase (.Call (.Name "super" p0) [] [] p1) attr (ksEnv q scope L f (.ref cda) cc) whole) Q E s := by
  have X : K.In s.heap := X₀.keeps F.keep
  obtain ⟨hh, g, d, t, os⟩ := s
  obtain ⟨oD, hD1, hD2⟩ : ∃ oD, hh.get? D = some oD ∧ oD.data = .cls cdD := by
    unfold clsIn at hD
    split at hD
    · rename_i c d cd' sl ho
      cases hD
      exact ⟨_, X _ _ ho, rfl⟩
    · cases hD
  refine ks_wpAt_super_base (env := ksEnv q scope L f (.ref cda) cc) hks hkc hat rfl (X _ _ hf) rfl hp rfl (X _ _ hcode) rfl hvs hfile htop ?_
  refine ks_loadName_global hk hks (loadGlobal_builtin (env := ksEnv q scope L f (.ref cda) cc) G hsuper B hbt ⟨rfl, ?_⟩)
  refine wpAny_loadName_free hk hkc rfl ⟨_, X _ _ hcell, rfl⟩ ?_
  refine wpAny_loadName_local hk hka F.ns hv ?_
  refine ks_wpAny_isType_cls hD1 hD2 ⟨rfl, ?_⟩
  refine ks_wpAny_call_super hD1 hD2 I.at_ I.cls (fun c e => ?_) (looks_mroIn X hsub) (fun h' e k => ?_)
  · have := I.no
    unfold notCls at this
    rw [e] at this
    exact Bool.noConfusion this
  · obtain ⟨F', N', l'⟩ := ks_newsPush (s := ⟨hh, g, d, t, os⟩) F N rfl e k
    exact h _ _ F' N' l'
theorem one_size (v : Value) : [v].length ≤ sizeLine := by
  rw [sizeLine_eq]
  exact (by decide : 1 ≤ 16777216)
theorem add_len (a b : Str) : (a ++ b).length = a.length + b.length := by
  show (Str.append a b).length = _
  unfold Str.append Str.length
  simp
/-- the text of the error -/
theorem text_ok {env : Env} {mt : Str} {k : Nat} {q4 q5 q6 q7 : Pos} {y : Str} {ty : Tok} {Q : Value → Shared → Prop} (hn : s.heap.Ns env.locals m) (hv : m "thing" = some (.str y ty)) (hk : env.scope.kind = .function) (hl : env.kindOf "thing" = some .local)
    (hy : (reprText y).length ≤ 1000) (hm : mt.length ≤ 1000) (h : ∀ z tk t', Q (.str z tk) { s with toks := t' }) : wpAny (model prog w) A (eval (iE mt k q4 q5 q6 q7) env) Q E s := by
  have hz : (reprText y).length ≤ sizeLine := by rw [sizeLine_eq]; omega
  have e0 : (Str.empty ++ reprText y : Str) = reprText y := by
    show Str.append _ _ = _
    unfold Str.append Str.empty
    simp
  refine wpAny_JoinedStr ?_
  have e1 : evalEach [.FormattedValue (.Name "thing" q4) 114 none q5, .Constant (.str mt) k q6] env = [eval (.FormattedValue (.Name "thing" q4) 114 none q5) env, eval (.Constant (.str mt) k q6) env] := by simp [evalEach]
  rw [e1]
  have fin : ∀ (tk : Tok) (s1 : Shared), s1.heap = s.heap → (∃ t', s1 = { s with toks := t' }) → ∃ y1 t, Value.str (reprText y) tk = .str y1 t ∧ (Str.empty ++ y1).length ≤ sizeLine ∧ Joins (model prog w) A E [eval (.Constant (.str mt) k q6) env] (Str.empty ++ y1) (fun out s₁ => out.length ≤ sizeLine ∧ Q (.str out s₁.toks) { s₁ with toks := s₁.toks + 1 }) s1 := by
    rintro tk s1 _ ⟨t', rfl⟩
    refine ⟨reprText y, tk, rfl, by rw [e0]; exact hz, ?_⟩
    rw [e0]
    have hl : (reprText y ++ mt).length ≤ sizeLine := by rw [add_len, sizeLine_eq]; omega
    exact wpAny_Constant_str ⟨mt, _, rfl, hl, hl, h _ _ _⟩
  refine wpAny_FormattedValue_repr (wpAny_Name (wpAny_loadName_local hk hl hn hv ?_) (by decide))
  exact pyReprObj_str (wpAny_formatField_str (fin _ _ rfl ⟨_, rfl⟩) (fin _ _ rfl ⟨_, rfl⟩) hz) hz
theorem call_eq {env : Env} {o : Expr} {name : Str} {apos pos : Pos} {args : List Expr} (hform : methodCallForm (args.length + ([] : List Keyword).length) (backTo pos (starEach args env)) (backToKw pos (keywordEach [] env)) = true) (hline : (apos.endLine == pos.line) = true) :
    eval (.Call (.Attribute o name apos) args [] pos) env = (do
      let ov ← attributeBase o name env (eval o env)
      standAt apos.atName
      let (f, first) ← holding [ov] (getMethod ov name (do return (← importBound o env).getD true))
      callWith pos f first (backTo pos (starEach args env)) []) := by
  have hpos : methodCallPos true o env apos pos = pure pos := by unfold methodCallPos; simp [hline]
  have e : ∀ ov, methodCall o name apos pos env ov (args.length + ([] : List Keyword).length) (backTo pos (starEach args env)) (backToKw pos (keywordEach [] env)) = (do
      let (f, first) ← holding [ov] (getMethod ov name (do return (← importBound o env).getD true))
      callWith pos f first (backTo pos (starEach args env)) []) := fun ov => by
    unfold methodCall
    rw [hform, hpos]
    simp only [pure_bind]
    rfl
  rw [arm_eval_Call]
  simp only [e]
theorem iS_cell : ∀ z ∈ iS.names, z.2 ≠ .cell := by decide
theorem iS_loc {a b : Value} : ∀ z ∈ [(("self" : Str), a), ("thing", b)], iS.names.lookup z.1 = some .local := fun z hz => by
  rcases List.mem_cons.mp hz with rfl | hz
  · rfl
  · cases List.mem_singleton.mp hz
    rfl
theorem kept_but {h h' : Heap} (X : K.In h) (hx : K.lookup x = none) (k : ∀ b o, b ≠ x → h.get? b = some o → h'.get? b = some o) : K.In h' := fun a o e =>
  k a o (fun z => by rw [z, hx] at e; cases e) (X a o e)
variable {R : Result → Shared → Prop} {fI : Addr} {nm : Str}
theorem init_ok (T : Txt K mg prog nm C fI) {t0 : Addr} {y : Str} {ty : Tok} (X : K.In s.heap) (G : s.heap.Ns mainGlobals mg) (B : s.heap.Ns builtinsNs mb) (hbt : mb "super" = some (.type "super")) (hlim : s.heap.NoLimit) (hx : s.heap.get? x = some (HandSPX.excO C t0)) (hnx : K.lookup x = none) (hroom : A.depth < recursionLimit) (hy : (reprText y).length ≤ 1000)
    (hq : ∀ h' tk dx t1, InitEnd s.heap h' x C dx t1 (.str y ty) → R (.ok (.ret .none)) { s with heap := h', toks := tk }) :
    codeAny (model prog w) A (.call (.ref fI) ⟨[.ref x, .str y ty], []⟩) R s := by
  obtain ⟨oc, od, q, doc, pm, an, cda, cc, ct, osl, mt, k, p1, p2, q1, q2, q3, q4, q5, q6, q7, q8, q9, q10, q11, q12, q13, ho, hcd, hmt, hln, ⟨ccl, cdd, vs, ccs, file, tf, hcode, hvs, hfile⟩, ⟨cl, cld, csl, hcell⟩⟩ := T.fn
  obtain ⟨nm', qn, NN, bs, bm, sn, sub, ab, col, dd, k0, k1, k2, k3, k5, hC, hbm⟩ := T.cls
  have hcl : clsIn K C = some { name := nm', bases := bs, mro := .ref C :: bm, ns := NN, qualname := qn, hasDict := true, slotNames := sn, subclasses := sub, abstract := ab, collection := col, hasDel := false } := by unfold clsIn; rw [hC] <;> rfl
  refine ks_codeAny_call_defAt (binds := [("self", .ref x), ("thing", .str y ty)]) hroom (X _ _ ho) rfl hlim (codeRec_of X hcd) rfl (BindsTo.of_eq (by first | rfl | with_unfolding_all rfl)) iS_cell iS_loc (fun h₁ hn k₁ => ?_) rfl rfl rfl
  have hxL : x ≠ s.heap.objs.size := Nat.ne_of_lt (Heap.lt_size hx)
  have hx₁ := k₁ _ _ hx
  have Xh : K.In (hideAll s.heap [x]) := fun a o e => hideAll_get [x] (X a o e) fun z => by
    rw [List.mem_singleton] at z
    rw [z, hnx] at e
    cases e
  have F1 : Fr (hideAll s.heap [x]) s.heap.objs.size h₁ (fun z => ([("self", Value.ref x), ("thing", Value.str y ty)] : List (Str × Value)).reverse.lookup z) := ⟨hn, fun b o e => k₁ b o (of_hideAll _ e), Nat.le_of_eq (hideAll_size _ _)⟩
  have N1 : News (hideAll s.heap [x]) s.heap.objs.size h₁ [(x, HandSPX.excO C t0)] := fun p hp => by
    cases List.mem_singleton.mp hp
    exact ⟨hx₁, hxL, hideAll_none _ (List.mem_singleton.mpr rfl)⟩
  have I1 : InstAt h₁ x (HandSPX.excO C t0) C none := ⟨hx₁, rfl, rfl, trivial⟩
  refine ks_wpAt_execs_cons (ks_wpAt_Expr_any (ks_wpAt_MethodCall ?_ (call_eq rfl hln)))
  refine sup_node (f := fI) F1 Xh N1 (G.keeps k₁) T.gS (B.keeps k₁) hbt ho rfl rfl I1 hcode hvs hfile hcell hcl T.mro (by decide) rfl rfl rfl rfl T.top fun so h₂ F2 N2 l2 => ?_
  have m2 : (x, HandSPX.excO C t0) ∈ [(so, ks_superObj C x C), (x, HandSPX.excO C t0)] := .tail _ (.head _)
  refine kxs_method kxs_ValueError F2 Xh N2 (.head _) (InstAt.of_exc0 (c2 := .none) N2 m2) T.opq T.sup T.veC (by decide) fun u h₃ F3 N3 l3 => ?_
  refine kxs_callWith1 N3 (.head _) ?_
  refine Calls.spliced_cons (text_ok (mt := mt) (k := k) (q4 := q4) (q5 := q5) (q6 := q6) (q7 := q7) F3.ns rfl rfl rfl hy hmt fun z tk t' => Calls.spliced_nil ⟨kxs_at N3 (.head _), ?_⟩)
  have n1 : u ≠ x := fun e => by have := l3 _ m2; rw [e] at this; exact Nat.lt_irrefl _ this
  have n2 : so ≠ x := fun e => by have := l2 _ (.head _); rw [e] at this; exact Nat.lt_irrefl _ this
  refine kxs_call (t := t0) (dv := none) (c2 := .none) F3 Xh N3 F.excBase_ValueError T.exi (.head _) (.tail n1 (.tail n2 (.head fun p hp => nomatch hp))) (one_size _) fun t1 h₄ F4 N4 l4 => ?_
  have hx₄ : h₄.get? x = some (HandSPX.excO C t1) := (N4 (x, excObj C t1 none .none) (.tail _ (.tail _ (.tail _ (.head _))))).1
  have X₄ : K.In h₄ := Xh.keeps F4.keep
  refine wpAt_of_wpAny (wpAny_execs_cons (plainObj_wpAny_Assign_Attribute ?_))
  refine wpAny_Name (wpAny_loadName_local rfl rfl F4.ns (v := .str y ty) rfl ?_) (by decide)
  refine wpAny_Name (wpAny_loadName_local rfl rfl F4.ns (v := .ref x) rfl ?_) (by decide)
  refine set_plain X₄ (ox := HandSPX.excO C t1) (od := none) ⟨hx₄, rfl, rfl, trivial⟩ T.sa ?_
  refine exc_osa X₄ hx₄ hcl (show refsVE (.ref C :: bm) = true from hbm) rfl T.noN (fun h₅ tk₅ dx k₅ dn dne hx₅ hn₅ => ?_)
  show wpAny _ _ (execs _ _) _ _ _
  have z : s.heap.objs.size < h₄.objs.size := F4.ns.lt
  exact wpAny_execs_nil (hq h₅ tk₅ dx t1 ⟨fun b o hb e => k₅ b o hb (F4.keep b o (hideAll_get [x] e fun y => hb (List.mem_singleton.mp y))), hx₅, Nat.le_of_lt (Nat.lt_of_lt_of_le z dn), dne, hn₅⟩)
theorem made_ok (T : Txt K mg prog nm C fI) {y : Str} {ty : Tok} (X : K.In s.heap) (G : s.heap.Ns mainGlobals mg) (B : s.heap.Ns builtinsNs mb) (hbt : mb "super" = some (.type "super")) (hlim : s.heap.NoLimit) (hroom : A.depth + 1 < recursionLimit) (hy : (reprText y).length ≤ 1000)
    (hq : ∀ h' tk e d, OwnMade s.heap h' e C d (.str y ty) → R (.ok (.ret (.ref e))) { s with heap := h', toks := tk }) :
    codeAny (model prog w) A (.call (.ref C) ⟨[.str y ty], []⟩) R s := by
  obtain ⟨nm', q, N, bs, bm, sn, sub, ab, col, dd, k0, k1, k2, k3, k5, hC, hbm⟩ := T.cls
  obtain ⟨hp, g, dr, tk, os⟩ := s
  have k : ∀ b o, hp.get? b = some o → ((hp.push (kdv_tup [.str y ty])).push (HandSPX.excO C hp.objs.size)).get? b = some o := fun b o e => Heap.get?_push_of_some _ (Heap.get?_push_of_some _ e)
  have hget : ((hp.push (kdv_tup [.str y ty])).push (HandSPX.excO C hp.objs.size)).get? (hp.objs.size + 1) = some (HandSPX.excO C hp.objs.size) := by heap_get
  have hnx : K.lookup (hp.objs.size + 1) = none := by
    cases e : K.lookup (hp.objs.size + 1) with
    | none => rfl
    | some o =>
      have z : hp.get? (hp.objs.size + 1) = some o := X _ _ e
      exact absurd (Nat.lt_of_succ_lt (Heap.lt_size z)) (Nat.lt_irrefl _)
  refine HandSPX.call_own F.excBase_ValueError (fun X => refsVE_contains X bm hbm) (X _ _ hC) (looks_findIn X T.iC) (fun self => bind_fn X self T.tC) (one_size _) ?_
  refine init_ok (s := ⟨(hp.push (kdv_tup [.str y ty])).push (HandSPX.excO C hp.objs.size), g, dr, tk, os⟩) T (X.keeps k) (G.keeps k) (B.keeps k) hbt (hlim.keeps k) hget hnx ?_ hy fun h' tk' dx t1 ⟨k', hx, dn, dne, hns⟩ => ?_
  · show A.depth + 1 < recursionLimit
    exact hroom
  · have old : ∀ b o, hp.get? b = some o → h'.get? b = some o := fun b o e => k' b o (Nat.ne_of_lt (Nat.lt_succ_of_lt (Heap.lt_size e))) (k b o e)
    have z : hp.objs.size + 1 + 1 ≤ dx := by
      first
        | (simpa only [Heap.size_push] using dn)
        | exact dn
        | (have q := dn; rw [Heap.size_push, Heap.size_push] at q; exact q)
    exact ⟨rfl, hq h' tk' (hp.objs.size + 1) dx ⟨old, Nat.le_succ _, ⟨_, _, hx, rfl, rfl, rfl, rfl, rfl⟩, Nat.le_trans (Nat.le_trans (Nat.le_succ _) (Nat.le_succ _)) z, dne, hns⟩⟩
end
end DamX
end PySem
namespace Dv
open PySem PySem.Spec PyProof.Rows L2
theorem relO_th {v : V} {v' : Value} (r : RelV v v') (f : Str) : RelO (List.lookup f [(("thing" : Str), v)]) (if f = "thing" then some v' else none) := by
  by_cases hw : f = "thing"
  · subst hw
    rw [if_pos rfl]
    have q : List.lookup ("thing" : Str) [(("thing" : Str), v)] = some v := by simp [List.lookup]
    rw [q]
    exact r
  · rw [if_neg hw]
    have qw : (f == ("thing" : Str)) = false := by simpa using hw
    have q2 : List.lookup f [(("thing" : Str), v)] = none := by simp [List.lookup, qw]
    rw [q2]
    trivial
section
variable {X : Cx} {C fI : Addr} {nm : Str}
/-- C("..") -/
def tMkTh (C : Addr) (y : Str) : L2.St → Hp → XK → Prop := fun _ H Q => ∀ d, H d = none → Q (.ref C) (some d) (upd H d (.xd [(("thing" : Str), .str y)]))
theorem pmk_th {y : Str} {kk : Nat} {p p1 pos : Pos} {k : Nat} (T : PySem.DamX.Txt X.K X.mg X.prog nm C fI) (hr : Room k X.A) (hy : (reprText y).length ≤ 1000) (hg : Gl X nm) (hdb : (nm == ("__debug__" : Str)) = false) :
    L2N.PMk X (.Call (.Name nm p) [.Constant (.str y) kk p1] [] pos) (tMkTh C y) := by
  intro pins s σ H Q I h
  obtain ⟨mb, hB, hbt⟩ := I.mod.blt
  refine wpAny_Call_Name_kw (ld_glob I hg T.gC ?_ hdb)
  refine PySem.W.callWith_K (h₀ := X.base) I.ok.mod.kin T.kC ?_ (by rfl) (by rfl)
  refine Calls.spliced_cons (wpAny_Constant_str (k := kk) (pos := p1) (Calls.spliced_nil ?_))
  have I1 : Inv X pins σ H { s with toks := s.toks + 1 } := I.tok _
  refine ⟨I1.kIn, ?_⟩
  have hlim := I1.nolimit
  have hG : s.heap.Ns mainGlobals X.mg := I.mod.glob.keeps I.bk
  have hB' : s.heap.Ns builtinsNs mb := hB.keeps I.bk
  obtain ⟨hp, g, dr, tk, os⟩ := s
  show wpAny _ _ (call (.ref C) [.str y tk]) _ _ _
  refine wpAny_call (PySem.DamX.made_ok T I1.kIn hG hB' ((hbt "super" (by decide)).trans PySem.DamX.boot_super) hlim (by have := hr.dp; omega) hy fun h' tk' e d M => ?_)
  show L2N.MkP X pins σ Q (.ref e) ⟨h', g, dr, tk', os⟩
  obtain ⟨oe, fv, hoe, hc, hd, hdat, h1, h2⟩ := M.obj
  have hns := M.ns
  obtain ⟨G', g1, g2⟩ := restrict h' fun b => decide (b ≠ e)
  have gk : ∀ b, b ≠ e → G'.get? b = h'.get? b := fun b hb => g1 b (decide_eq_true hb)
  have ge : G'.get? e = none := g2 e (by simp)
  have old : ∀ b o, hp.get? b = some o → G'.get? b = some o := fun b o q => (gk b (Nat.ne_of_lt (Nat.lt_of_lt_of_le (Heap.lt_size q) M.new))).trans (M.keep b o q)
  have ob : ObjOk X.prog X.w (upd H d (.xd [(("thing" : Str), .str y)])) G' d (.xd [(("thing" : Str), .str y)]) :=
    ⟨_, hns.at (fun o q => (gk d M.dne).trans q), fun f => relO_th (v := .str y) (v' := .str y tk) ⟨_, rfl⟩ f⟩
  have J : Inv X pins σ (upd H d (.xd [(("thing" : Str), .str y)])) ⟨G', g, dr, tk', os⟩ := I1.laid (t' := tk') old M.dbig ob
  refine ⟨e, oe, fv, ⟨G', g, dr, tk', os⟩, _, .ref C, some d, rfl, J, fun b o q => ?_, ge, hoe, ⟨hc, hd, fun vs' e' => by rw [hdat] at e'; cases e'; exact h2⟩, hdat, h1, ?_, rfl, I1.bare, raises_own T.exC T.tyC, h d (I1.hok.fresh M.dbig)⟩
  · by_cases hb : b = e
    · have q' : G'.get? b = some o := q
      rw [hb, ge] at q'; cases q'
    · exact (gk b hb).symm.trans q
  · rw [upd_ne (Ne.symm M.dne)]
    exact I1.hok.fresh M.new
/-- e.thing, e the exception that the suite holds (at a; its class C, its dict dd) -/
def tByTh (a dd : Addr) (y : Str) (te : TE) : TE := fun σ H Q => te σ H fun x H1 => x = .ref a ∧ H1 dd = some (.xd [(("thing" : Str), .str y)]) ∧ Q (.str y) H1
theorem pe_byTh {a dd : Addr} {oe : Obj} {y : Str} {pn : List (Addr × Obj)} {e : Expr} {te : TE} {pos : Pos} (T : PySem.DamX.Txt X.K X.mg X.prog nm C fI) (hz : Zc (.ref C) (some dd) oe) (hf : ∃ vs, oe.data = .fields vs) (he : PE (X.suite a ((a, oe) :: pn)) e te)
    (hb : attributeBase e "thing" X.env (eval e X.env) = eval e X.env) :
    PE (X.suite a ((a, oe) :: pn)) (.Attribute e "thing" pos) (tByTh a dd y te) := by
  refine ⟨fun pins s σ H Q I h => ?_⟩
  refine attr_of hb (thn (he.run pins s σ H _ I h) fun u s1 hh => ?_)
  obtain ⟨x, H1, I1, rx, ex, ea, q⟩ := hh
  subst ex
  obtain rfl : u = Value.ref a := rx
  obtain ⟨ha, _⟩ := I1.pin (a, oe) (List.mem_append_left _ List.mem_cons_self)
  obtain ⟨vs, hd⟩ := hf
  have hx : ObjOk X.prog X.w H1 s1.heap dd (.xd [(("thing" : Str), .str y)]) := I1.hok dd _ ea
  obtain ⟨mA, hns, hr⟩ := hx
  obtain ⟨od, ho, hl⟩ := lookIn_ns hns
  have l : List.lookup ("thing" : Str) [(("thing" : Str), V.str y)] = some (.str y) := by simp [List.lookup]
  obtain ⟨u, hu, ru⟩ := RelO.some_of (v := V.str y) (o := mA "thing") (by rw [← l]; exact hr "thing")
  have J : PySem.W.InstAt s1.heap a oe C (some od) := ⟨ha, hz.1, by unfold PySem.W.notCls; rw [hd] <;> rfl, by rw [hz.2]; exact ho⟩
  exact HandSPX.exc_get I1.kIn J T.ga T.gg T.exC (PySem.W.findObj_own T.hdC T.noN rfl (by rw [hl, hu])) (handed_of ru) ⟨.str y, H1, I1.tok _, ru, q⟩
end
end Dv
/-! A functional reading of Python defs over plain data: slots, results, and the judgement that links a syntax tree with such a function. -/
namespace Dv
open PySem L2

abbrev Frg := PySem.W.Frag
/-- plain data. scr: the law's script; dic: keys and values in order -/
inductive D where
  | non | bl (b : Bool) | int (i : Int) | str (s : Str) | tup (xs : List D) | lst (xs : List D) | dic (ks : List L2.Key) (xs : List D) | scr (ns : List Int)
/-- an exception as data: its class by name, its fields -/
structure Exn where
  cls : Str
  fs : List (Str × D)
/-- a slot: nothing, a value that nobody changes, a list (a dict) of the def's own -/
inductive Sl where
  | no | val (d : D) | own (d : D)
abbrev En := List Sl
/-- how a piece of code ends -/
inductive R (α : Type) where
  | ok (a : α) (ρ : En) | exc (x : Exn) (ρ : En) | bad
abbrev M (α : Type) := En → R α
def R.bind {α β : Type} (r : R α) (f : α → M β) : R β := match r with
  | .ok a ρ => f a ρ
  | .exc x ρ => .exc x ρ
  | .bad => .bad
@[simp] theorem R.bind_ok {α β : Type} (a : α) (ρ : En) (f : α → M β) : R.bind (.ok a ρ) f = f a ρ := rfl
@[simp] theorem R.bind_exc {α β : Type} (x : Exn) (ρ : En) (f : α → M β) : R.bind (.exc x ρ) f = .exc x ρ := rfl
@[simp] theorem R.bind_bad {α β : Type} (f : α → M β) : R.bind .bad f = .bad := rfl
/-- a def's result, by its arguments -/
inductive Fr where
  | ok (d : D) | exc (x : Exn) | bad
abbrev Fn := List D → Fr

/-! ### lists within data -/
mutual
def pure? : D → Bool
  | .lst _ => false
  | .dic _ _ => false
  | .scr _ => false
  | .tup ds => pureAll? ds
  | _ => true
def pureAll? : List D → Bool
  | [] => true
  | d :: ds => pure? d && pureAll? ds
end
def isMut : D → Bool
  | .lst _ => true
  | .dic _ _ => true
  | _ => false
/-- nothing in it but its own outermost list may change -/
def indep : D → Bool
  | .lst ds => pureAll? ds
  | .dic _ ds => pureAll? ds
  | d => pure? d

/-! ### data in an abstract heap -/
mutual
inductive Rp (K : Frg) (H : Hp) : V → D → Prop
  | non : Rp K H .non .non
  | bl (b : Bool) : Rp K H (.bl b) (.bl b)
  | int (i : Int) : Rp K H (.int i) (.int i)
  | str (x : Str) : Rp K H (.str x) (.str x)
  | lst {a : Addr} {xs : List V} {ds : List D} : H a = some (.lst xs) → RpAll K H xs ds → Rp K H (.ref a) (.lst ds)
  | tup {a : Addr} {xs : List V} {ds : List D} : SqT K H a xs → RpAll K H xs ds → Rp K H (.ref a) (.tup ds)
  | dic {a : Addr} {ks : List L2.Key} {xs : List V} {ds : List D} : H a = some (.dK (ks.zip xs)) → ks.length = xs.length → RpAll K H xs ds → Rp K H (.ref a) (.dic ks ds)
  | scr {a : Addr} {ns : List Int} : SqL K H a (ns.map V.int) → Rp K H (.ref a) (.scr ns)
inductive RpAll (K : Frg) (H : Hp) : List V → List D → Prop
  | nil : RpAll K H [] []
  | cons {v : V} {vs : List V} {d : D} {ds : List D} : Rp K H v d → RpAll K H vs ds → RpAll K H (v :: vs) (d :: ds)
end
theorem sqT_up {K : Frg} {H H' : Hp} (e : Same H H') {a : Addr} {xs : List V} (h : SqT K H a xs) : SqT K H' a xs := by
  rcases h with (h | ⟨o, h⟩) | h
  · exact .inl (.inl (e _ _ h))
  · exact .inl (.inr ⟨o, e _ _ h⟩)
  · exact .inr h
theorem rpx {K : Frg} {H H' : Hp} (e : Same H H') : (∀ v d, Rp K H v d → Rp K H' v d) ∧ (∀ vs ds, RpAll K H vs ds → RpAll K H' vs ds) := by
  refine ⟨fun v d h => ?_, fun vs ds h => ?_⟩
  · exact Rp.rec (motive_1 := fun v d _ => Rp K H' v d) (motive_2 := fun vs ds _ => RpAll K H' vs ds) .non .bl .int .str (fun h _ ih => .lst (e _ _ h) ih) (fun h _ ih => .tup (sqT_up e h) ih) (fun h l _ ih => .dic (e _ _ h) l ih) (fun h => .scr (e.seq h)) .nil (fun _ _ a b => .cons a b) h
  · exact RpAll.rec (motive_1 := fun v d _ => Rp K H' v d) (motive_2 := fun vs ds _ => RpAll K H' vs ds) .non .bl .int .str (fun h _ ih => .lst (e _ _ h) ih) (fun h _ ih => .tup (sqT_up e h) ih) (fun h l _ ih => .dic (e _ _ h) l ih) (fun h => .scr (e.seq h)) .nil (fun _ _ a b => .cons a b) h
theorem Rp.up {K : Frg} {H H' : Hp} {v : V} {d : D} (h : Rp K H v d) (e : Same H H') : Rp K H' v d := (rpx e).1 v d h
theorem RpAll.up {K : Frg} {H H' : Hp} {v : List V} {d : List D} (h : RpAll K H v d) (e : Same H H') : RpAll K H' v d := (rpx e).2 v d h
theorem RpAll.length {K : Frg} {H : Hp} : ∀ {vs : List V} {ds : List D}, RpAll K H vs ds → vs.length = ds.length
  | _, _, .nil => rfl
  | _, _, .cons _ t => by rw [List.length_cons, List.length_cons, RpAll.length t]
theorem RpAll.get {K : Frg} {H : Hp} : ∀ {vs : List V} {ds : List D} {i : Nat} {d : D}, RpAll K H vs ds → ds[i]? = some d → ∃ v, vs[i]? = some v ∧ Rp K H v d
  | _, _, i, d, .nil, e => by simp at e
  | _, _, 0, d, .cons r _, e => by simp at e; subst e; exact ⟨_, rfl, r⟩
  | _, _, i + 1, d, .cons _ t, e => by
    obtain ⟨v, h1, h2⟩ := RpAll.get (i := i) (d := d) t (by simpa using e)
    exact ⟨v, by simpa using h1, h2⟩
theorem RpAll.get' {K : Frg} {H : Hp} : ∀ {vs : List V} {ds : List D} {i : Nat} {v : V}, RpAll K H vs ds → vs[i]? = some v → ∃ d, ds[i]? = some d ∧ Rp K H v d
  | _, _, i, d, .nil, e => by simp at e
  | _, _, 0, d, .cons r _, e => by simp at e; subst e; exact ⟨_, rfl, r⟩
  | _, _, i + 1, v, .cons _ t, e => by
    obtain ⟨d, h1, h2⟩ := RpAll.get' (i := i) (v := v) t (by simpa using e)
    exact ⟨d, by simpa using h1, h2⟩
theorem RpAll.append {K : Frg} {H : Hp} : ∀ {vs ws : List V} {ds es : List D}, RpAll K H vs ds → RpAll K H ws es → RpAll K H (vs ++ ws) (ds ++ es)
  | _, _, _, _, .nil, q => q
  | _, _, _, _, .cons a t, q => .cons a (RpAll.append t q)
theorem RpAll.take {K : Frg} {H : Hp} : ∀ {vs : List V} {ds : List D} (n : Nat), RpAll K H vs ds → RpAll K H (vs.take n) (ds.take n)
  | _, _, 0, _ => by rw [List.take_zero, List.take_zero]; exact .nil
  | _, _, n + 1, .nil => .nil
  | _, _, n + 1, .cons a t => .cons a (RpAll.take n t)
theorem RpAll.drop {K : Frg} {H : Hp} : ∀ {vs : List V} {ds : List D} (n : Nat), RpAll K H vs ds → RpAll K H (vs.drop n) (ds.drop n)
  | _, _, 0, h => h
  | _, _, n + 1, .nil => .nil
  | _, _, n + 1, .cons a t => RpAll.drop n t
theorem RpAll.set {K : Frg} {H : Hp} {v : V} {d : D} (r : Rp K H v d) : ∀ {vs : List V} {ds : List D} (n : Nat), RpAll K H vs ds → RpAll K H (vs.set n v) (ds.set n d)
  | _, _, _, .nil => .nil
  | _, _, 0, .cons a t => .cons r t
  | _, _, n + 1, .cons a t => .cons a (RpAll.set r n t)

/-- at p stands d, all of it but p for good -/
inductive Own (K : Frg) (G : Hp) (p : Addr) : HO → D → Prop
  | lst {vs : List V} {ds : List D} : RpAll K G vs ds → Own K G p (.lst vs) (.lst ds)
  | dic {ks : List L2.Key} {vs : List V} {ds : List D} : ks.length = vs.length → RpAll K G vs ds → Own K G p (.dK (ks.zip vs)) (.dic ks ds)
theorem Own.up {K : Frg} {G G' : Hp} {p : Addr} {o : HO} {d : D} (h : Own K G p o d) (e : Same G G') : Own K G' p o d := by
  cases h with
  | lst h => exact .lst (RpAll.up h e)
  | dic l h => exact .dic l (RpAll.up h e)
theorem Own.rp {K : Frg} {G : Hp} {p : Addr} {o : HO} {d : D} (h : Own K G p o d) (g : G p = some o) : Rp K G (.ref p) d := by
  cases h with
  | lst h => exact .lst g h
  | dic l h => exact .dic g l h
theorem Own.mut {K : Frg} {G : Hp} {p : Addr} {o : HO} {d : D} (h : Own K G p o d) : isMut d = true := by
  cases h <;> rfl
theorem Own.nt {K : Frg} {G : Hp} {p : Addr} {o : HO} {d : D} (h : Own K G p o d) : ∀ xs, o ≠ .tup xs := by
  cases h <;> (intro xs e; cases e)

/-! ### code objects' tables -/
def noT (o : HO) : Prop := ∀ ps, o ≠ .tbl ps
theorem Own.noT {K : Frg} {G : Hp} {p : Addr} {o : HO} {d : D} (h : Own K G p o d) : noT o := by
  cases h <;> (intro ps e; cases e)
/-- what is no table stands as it did; a table grows -/
structure Ext (H H' : Hp) : Prop where
  obj : ∀ b o, H b = some o → noT o → H' b = some o
  tbl : ∀ b ps, H b = some (.tbl ps) → ∃ ps', H' b = some (.tbl ps') ∧ (TriplesOk ps.toList → TriplesOk ps'.toList)
theorem Ext.of {H H' : Hp} (s : Same H H') : Ext H H' := ⟨fun b o e _ => s b o e, fun b ps e => ⟨ps, s b _ e, fun z => z⟩⟩
theorem Ext.refl (H : Hp) : Ext H H := .of (Same.refl H)
theorem Ext.trans {H H1 H2 : Hp} (a : Ext H H1) (b : Ext H1 H2) : Ext H H2 :=
  ⟨fun c o e n => b.obj c o (a.obj c o e n) n, fun c ps e => let ⟨ps1, e1, t1⟩ := a.tbl c ps e; let ⟨ps2, e2, t2⟩ := b.tbl c ps1 e1; ⟨ps2, e2, fun z => t2 (t1 z)⟩⟩
theorem Ext.free {H H' : Hp} (e : Ext H H') {p : Addr} (h : H' p = none) : H p = none := by
  cases q : H p with
  | none => rfl
  | some o =>
    by_cases hn : ∃ ps, o = .tbl ps
    · obtain ⟨ps, rfl⟩ := hn
      obtain ⟨ps', e', _⟩ := e.tbl p ps q
      rw [h] at e'
      cases e'
    · have := e.obj p o q fun ps z => hn ⟨ps, z⟩
      rw [h] at this
      cases this
/-- at P stands a table in order -/
def TabT (H : Hp) (P : Addr) : Prop := ∃ ps : Array Value, H P = some (.tbl ps) ∧ TriplesOk ps.toList
theorem TabT.ext {H H' : Hp} {P : Addr} (t : TabT H P) (e : Ext H H') : TabT H' P := let ⟨ps, a, b⟩ := t; let ⟨ps', c, d⟩ := e.tbl P ps a; ⟨ps', c, d b⟩
theorem TabT.put {H : Hp} {P p : Addr} {o o' : HO} (t : TabT H P) (h : H p = some o) (n : noT o) : TabT (upd H p o') P := by
  obtain ⟨ps, e, w⟩ := t
  have ne : P ≠ p := fun z => by
    rw [z, h] at e
    exact n ps (Option.some.inj e)
  exact ⟨ps, by rw [upd_ne ne]; exact e, w⟩
theorem Ext.put {H0 H : Hp} {p : Addr} {o : HO} (e : Ext H0 H) (h : H0 p = none) : Ext H0 (upd H p o) := by
  have ne : ∀ {a x}, H0 a = some x → a ≠ p := fun {a x} q z => by rw [z, h] at q; cases q
  exact ⟨fun b x q n => by rw [upd_ne (ne q)]; exact e.obj b x q n, fun b ps q => by rw [upd_ne (ne q)]; exact e.tbl b ps q⟩
/-- what is wanted of an exception's value; the tables that calls may lengthen -/
structure XRel where
  rel : Exn → Value → Option Addr → Hp → Prop
  tabs : List Addr
instance : CoeFun XRel (fun _ => Exn → Value → Option Addr → Hp → Prop) := ⟨XRel.rel⟩
def NoTb (G : Hp) : Prop := ∀ a ps, G a ≠ some (.tbl ps)
theorem NoTb.put {G : Hp} {p : Addr} {o : HO} (h : NoTb G) (n : noT o) : NoTb (upd G p o) := fun a ps e => by
  by_cases q : a = p
  · subst q
    rw [upd_same] at e
    exact n ps (Option.some.inj e)
  · rw [upd_ne q] at e
    exact h a ps e
theorem NoTb.no {G : Hp} (h : NoTb G) {a : Addr} {o : HO} (e : G a = some o) : noT o := fun ps z => h a ps (by rw [e, z])
/-! ### the relation between slots as data and slots as values -/
/-- what is fixed while a def runs: the written part, the heap at its entry (frozen part, all of it), what is wanted of an exception -/
structure Fx where
  K : Frg
  G0 : Hp
  H0 : Hp
  /-- objects held aside: nobody touches them -/
  B : Hp
  W : WX
  XR : XRel
/-- no table stands for good or aside; the tables stand in order -/
structure Tbs (F : Fx) (G H : Hp) : Prop where
  gt : NoTb G
  bt : NoTb F.B
  tb : ∀ P ∈ F.XR.tabs, TabT H P
def NotOwned (ρ : En) (O : Nat → List Addr) (p : Addr) : Prop := ∀ (i : Nat) (d : D), ρ[i]? = some (Sl.own d) → p ∉ O i
/-- G: what stands for good; H: all; O: which addresses each slot owns -/
structure Er (F : Fx) (G H : Hp) (σ : L2.St) (ρ : En) (O : Nat → List Addr) : Prop where
  len : ρ.length = σ.length
  g0 : Same F.G0 G
  h0 : Ext F.H0 H
  gh : Same G H
  new : ∀ a o, G a = some o → F.G0 a = none → F.H0 a = none
  val : ∀ (i : Nat) (d : D), ρ[i]? = some (Sl.val d) → ∃ v, σ[i]? = some (some v) ∧ Rp F.K G v d
  own : ∀ (i : Nat) (d : D), ρ[i]? = some (Sl.own d) → ∃ p o, σ[i]? = some (some (.ref p)) ∧ O i = [p] ∧ H p = some o ∧ G p = none ∧ F.H0 p = none ∧ Own F.K G p o d
  dis : ∀ (i j : Nat) (d e : D), i ≠ j → ρ[i]? = some (Sl.own d) → ρ[j]? = some (Sl.own e) → ∀ a, a ∈ O i → a ∉ O j
  held : ∀ a o, F.B a = some o → H a = some o ∧ G a = none ∧ NotOwned ρ O a
  tab : Tbs F G H
/-- from one state to a later one: what stands for good stands, what no slot owns is as it was -/
structure Stp (ρ : En) (O : Nat → List Addr) (G H : Hp) (ρ' : En) (O' : Nat → List Addr) (G' H' : Hp) : Prop where
  g : Same G G'
theorem strf {ρ : En} {O : Nat → List Addr} {G H : Hp} : Stp ρ O G H ρ O G H := ⟨Same.refl G⟩
theorem Stp.trans {ρ ρ1 ρ2 : En} {O O1 O2 : Nat → List Addr} {G H G1 H1 G2 H2 : Hp} (a : Stp ρ O G H ρ1 O1 G1 H1) (b : Stp ρ1 O1 G1 H1 ρ2 O2 G2 H2) : Stp ρ O G H ρ2 O2 G2 H2 := ⟨a.g.trans b.g⟩
theorem Stp.ofG {ρ ρ' : En} {O O' : Nat → List Addr} {G G' H H' : Hp} (s : Same G G') : Stp ρ O G H ρ' O' G' H' := ⟨s⟩
theorem Stp.ofH {ρ : En} {O : Nat → List Addr} {G G' H H' : Hp} (s : Same G G') (_ : Same H H') : Stp ρ O G H ρ O G' H' := ⟨s⟩
/-- an expression's value: a list just made (fr), or what stands for good -/
def Rv (F : Fx) (G H : Hp) (ρ : En) (O : Nat → List Addr) (fr : Bool) (v : V) (d : D) : Prop :=
  (∃ p o, fr = true ∧ v = .ref p ∧ H p = some o ∧ G p = none ∧ F.H0 p = none ∧ F.B p = none ∧ NotOwned ρ O p ∧ Own F.K G p o d) ∨
  ((fr = true → isMut d = false) ∧ Rp F.K G v d)
/-- what may be read: it stands for good, or all of it but itself -/
def Vw (K : Frg) (G H : Hp) (v : V) (d : D) : Prop := Rp K G v d ∨ ∃ p o, v = .ref p ∧ H p = some o ∧ Own K G p o d
theorem Vw.up {K : Frg} {G G' H : Hp} {v : V} {d : D} (h : Vw K G H v d) (e : Same G G') : Vw K G' H v d := by
  rcases h with h | ⟨p, o, h1, h2, h3⟩
  · exact .inl (h.up e)
  · exact .inr ⟨p, o, h1, h2, h3.up e⟩
theorem Vw.rp {K : Frg} {G H : Hp} {v : V} {d : D} (h : Vw K G H v d) (e : Same G H) : Rp K H v d := by
  rcases h with h | ⟨p, o, rfl, h2, h3⟩
  · exact h.up e
  · exact (h3.up e).rp h2

/-! ### readings -/
/-- what is wanted at an exception -/
def Xc (F : Fx) (σ : L2.St) (x : Exn) (ρ : En) (G : Hp) : Prop := ∀ c dx G' H' O', Er F G' H' σ ρ O' → Same G G' → F.XR x c dx H' → F.W c dx σ H'
def rdE (F : Fx) (m : M D) (fr : Bool) : TE := fun σ H Q => ∃ G ρ O, Er F G H σ ρ O ∧ match m ρ with
  | .ok d ρ' => ∀ v G' H' O', Er F G' H' σ ρ' O' → Stp ρ O G H ρ' O' G' H' → Rv F G' H' ρ' O' fr v d → Q v H'
  | .exc x ρ' => Xc F σ x ρ' G
  | .bad => False
def rdT (F : Fx) (m : M Bool) : TT := fun σ H Q => ∃ G ρ O, Er F G H σ ρ O ∧ match m ρ with
  | .ok b ρ' => ∀ G' H' O', Er F G' H' σ ρ' O' → Stp ρ O G H ρ' O' G' H' → Q b H'
  | .exc x ρ' => Xc F σ x ρ' G
  | .bad => False
theorem Xc.up {F : Fx} {σ : L2.St} {x : Exn} {ρ : En} {G G' : Hp} (h : Xc F σ x ρ G) (e : Same G G') : Xc F σ x ρ G' := fun c dx G2 H' O' E s r => h c dx G2 H' O' E (e.trans s) r

/-! ### weakening of readings -/
theorem peI {X : Cx} {e : Expr} {t t' : TE} (h : PE X e t) (i : ∀ σ H Q, t' σ H Q → t σ H Q) : PE X e t' := ⟨fun pins s σ H Q I q => h.run pins s σ H Q I (i _ _ _ q)⟩
theorem ptI {X : Cx} {e : Expr} {t t' : TT} (h : PT X e t) (i : ∀ σ H Q, t' σ H Q → t σ H Q) : PT X e t' := ⟨fun pins s σ H Q I q => h.run pins s σ H Q I (i _ _ _ q)⟩
theorem paI {X : Cx} {e : List Expr} {t t' : TA} (h : PA X e t) (i : ∀ σ H Q, t' σ H Q → t σ H Q) : PA X e t' := ⟨fun pos pins s σ H Q I q => h.run pos pins s σ H Q I (i _ _ _ q)⟩
theorem psI {X : Cx} {e : Stmt} {t t' : TS} (h : PS X e t) (i : ∀ D σ H, t' D σ H → t D σ H) : PS X e t' := ⟨fun pins s σ H D I q => h.run pins s σ H D I (i _ _ _ q)⟩
theorem pssI {X : Cx} {e : List Stmt} {t t' : TS} (h : PSs X e t) (i : ∀ D σ H, t' D σ H → t D σ H) : PSs X e t' := ⟨fun pins s σ H D I q => h.run pins s σ H D I (i _ _ _ q)⟩

/-! ### new objects -/
section
variable {F : Fx} {G H : Hp} {σ : L2.St} {ρ : En} {O : Nat → List Addr}
theorem srfl {H : Hp} : Same H H := Same.refl H
theorem same_new {H : Hp} {p : Addr} {o : HO} (h : H p = none) : Same H (upd H p o) := fun b x e => by
  rw [upd_ne (ne_of_none e h)]
  exact e
theorem Tbs.ext {H' : Hp} (t : Tbs F G H) (e : Ext H H') : Tbs F G H' := ⟨t.gt, t.bt, fun P hP => (t.tb P hP).ext e⟩
theorem Tbs.put {H' : Hp} {p : Addr} {o : HO} (t : Tbs F G H) (no : noT o) (e : Ext H H') : Tbs F (upd G p o) H' := ⟨fun a ps z => by
  by_cases h : a = p
  · subst h
    rw [upd_same] at z
    exact no ps (Option.some.inj z)
  · rw [upd_ne h] at z
    exact t.gt a ps z, t.bt, fun P hP => (t.tb P hP).ext e⟩
theorem Er.gnone (E : Er F G H σ ρ O) {p : Addr} (h : H p = none) : G p = none := Same.free E.gh h
theorem Er.bnone (E : Er F G H σ ρ O) {p : Addr} (h : H p = none) : F.B p = none := by
  cases q : F.B p with
  | none => rfl
  | some o =>
    have := (E.held p o q).1
    rw [h] at this
    cases this
theorem Er.h0none (E : Er F G H σ ρ O) {p : Addr} (h : H p = none) : F.H0 p = none := E.h0.free h
/-- a new object for good -/
theorem Er.froz (E : Er F G H σ ρ O) {p : Addr} {o : HO} (h : H p = none) (no : noT o := by intro ps e; cases e) : Er F (upd G p o) (upd H p o) σ ρ O where
  len := E.len
  g0 := E.g0.trans (same_new (E.gnone h))
  h0 := E.h0.trans (.of (same_new h))
  tab := E.tab.put no (.of (same_new h))
  gh := fun b x e => by
    by_cases hb : b = p
    · subst hb; rw [upd_same] at e ⊢; exact e
    · rw [upd_ne hb] at e ⊢; exact E.gh b x e
  new := fun a x e n => by
    by_cases hb : a = p
    · subst hb; exact E.h0none h
    · rw [upd_ne hb] at e; exact E.new a x e n
  val := fun i d q => let ⟨v, a, b⟩ := E.val i d q; ⟨v, a, Rp.up b (same_new (E.gnone h))⟩
  own := fun i ds q => by
    obtain ⟨a, vs, h1, h2, h3, h4, h5, h6⟩ := E.own i ds q
    have ne : a ≠ p := ne_of_none h3 h
    exact ⟨a, vs, h1, h2, by rw [upd_ne ne]; exact h3, by rw [upd_ne ne]; exact h4, h5, Own.up h6 (same_new (E.gnone h))⟩
  dis := E.dis
  held := fun a x e => by
    obtain ⟨h1, h2, h3⟩ := E.held a x e
    have ne : a ≠ p := ne_of_none h1 h
    exact ⟨by rw [upd_ne ne]; exact h1, by rw [upd_ne ne]; exact h2, h3⟩
/-- a new object, not yet for good -/
theorem Er.fresh (E : Er F G H σ ρ O) {p : Addr} {o : HO} (h : H p = none) : Er F G (upd H p o) σ ρ O where
  len := E.len
  g0 := E.g0
  h0 := E.h0.trans (.of (same_new h))
  tab := E.tab.ext (.of (same_new h))
  gh := E.gh.trans (same_new h)
  new := E.new
  val := E.val
  own := fun i ds q => by
    obtain ⟨a, vs, h1, h2, h3, h4, h5, h6⟩ := E.own i ds q
    have ne : a ≠ p := ne_of_none h3 h
    exact ⟨a, vs, h1, h2, by rw [upd_ne ne]; exact h3, h4, h5, h6⟩
  dis := E.dis
  held := fun a x e => by
    obtain ⟨h1, h2, h3⟩ := E.held a x e
    have ne : a ≠ p := ne_of_none h1 h
    exact ⟨by rw [upd_ne ne]; exact h1, h2, h3⟩
theorem Er.notown (E : Er F G H σ ρ O) {p : Addr} (h : H p = none) : NotOwned ρ O p := fun i d q hm => by
  obtain ⟨a, vs, h1, h2, h3, _⟩ := E.own i d q
  rw [h2] at hm
  simp at hm
  subst hm
  rw [h] at h3
  cases h3
/-- a list just made stands for good from now on -/
theorem Er.keep (E : Er F G H σ ρ O) {p : Addr} {o : HO} (h : H p = some o) (g : G p = none) (h0 : F.H0 p = none) (hB : F.B p = none) (no : NotOwned ρ O p) (nt : noT o) : Er F (upd G p o) H σ ρ O where
  len := E.len
  g0 := E.g0.trans (same_new g)
  h0 := E.h0
  tab := E.tab.put nt (Ext.refl H)
  gh := fun b x e => by
    by_cases hb : b = p
    · subst hb; rw [upd_same] at e; rw [h]; exact e
    · rw [upd_ne hb] at e; exact E.gh b x e
  new := fun a x e n => by
    by_cases hb : a = p
    · subst hb; exact h0
    · rw [upd_ne hb] at e; exact E.new a x e n
  val := fun i d q => let ⟨v, a, b⟩ := E.val i d q; ⟨v, a, Rp.up b (same_new g)⟩
  own := fun i ds q => by
    obtain ⟨a, vs', h1, h2, h3, h4, h5, h6⟩ := E.own i ds q
    have ne : a ≠ p := fun e => by
      subst e
      exact no i ds q (by rw [h2]; simp)
    exact ⟨a, vs', h1, h2, h3, by rw [upd_ne ne]; exact h4, h5, Own.up h6 (same_new g)⟩
  dis := E.dis
  held := fun a x e => by
    obtain ⟨h1, h2, h3⟩ := E.held a x e
    have ne : a ≠ p := ne_of_none e hB
    exact ⟨h1, by rw [upd_ne ne]; exact h2, h3⟩
/-- any value for good -/
theorem Er.hold (E : Er F G H σ ρ O) {fr : Bool} {v : V} {d : D} (r : Rv F G H ρ O fr v d) : ∃ G', Same G G' ∧ Er F G' H σ ρ O ∧ Rp F.K G' v d := by
  rcases r with ⟨p, o, _, rfl, h1, h2, h3, hB, h4, h5⟩ | ⟨_, h⟩
  · exact ⟨_, same_new h2, E.keep h1 h2 h3 hB h4 h5.noT, (h5.up (same_new h2)).rp upd_same⟩
  · exact ⟨G, srfl, E, h⟩
/-- a slot's own list stands for good from now on -/
theorem Er.give (E : Er F G H σ ρ O) {i : Nat} {d : D} (q : ρ[i]? = some (Sl.own d)) : ∃ G' v, Same G G' ∧ σ[i]? = some (some v) ∧ Rp F.K G' v d ∧ Er F G' H σ (ρ.set i (.val d)) O := by
  obtain ⟨p, o, h1, h2, h3, h4, h5, h6⟩ := E.own i d q
  have hi : i < ρ.length := by
    rcases Nat.lt_or_ge i ρ.length with h | h
    · exact h
    · rw [List.getElem?_eq_none h] at q; cases q
  have other : ∀ {j : Nat} {e : D}, (ρ.set i (.val d))[j]? = some (Sl.own e) → j ≠ i ∧ ρ[j]? = some (Sl.own e) := fun {j e} z => by
    by_cases hj : j = i
    · subst hj
      rw [List.getElem?_set_self hi] at z
      cases z
    · rw [List.getElem?_set_ne (Ne.symm hj)] at z
      exact ⟨hj, z⟩
  refine ⟨upd G p o, .ref p, same_new h4, h1, (h6.up (same_new h4)).rp upd_same, ?_⟩
  refine ⟨by rw [List.length_set]; exact E.len, E.g0.trans (same_new h4), E.h0, fun b x e => ?_, fun a x e n => ?_, fun j e z => ?_, fun j e z => ?_, fun j k e1 e2 ne z1 z2 => E.dis j k e1 e2 ne (other z1).2 (other z2).2, fun a x e => ?_, E.tab.put h6.noT (Ext.refl H)⟩
  · by_cases hb : b = p
    · subst hb; rw [upd_same] at e; rw [h3]; exact e
    · rw [upd_ne hb] at e; exact E.gh b x e
  · by_cases hb : a = p
    · subst hb; exact h5
    · rw [upd_ne hb] at e; exact E.new a x e n
  · by_cases hj : j = i
    · subst hj
      rw [List.getElem?_set_self hi] at z
      cases z
      exact ⟨.ref p, h1, (h6.up (same_new h4)).rp upd_same⟩
    · rw [List.getElem?_set_ne (Ne.symm hj)] at z
      obtain ⟨v, a, b⟩ := E.val j e z
      exact ⟨v, a, b.up (same_new h4)⟩
  · obtain ⟨hj, z⟩ := other z
    obtain ⟨a, o', g1, g2, g3, g4, g5, g6⟩ := E.own j e z
    have ne : a ≠ p := fun q2 => E.dis i j d e (Ne.symm hj) q z p (by rw [h2]; simp) (by rw [g2, q2]; simp)
    exact ⟨a, o', g1, g2, g3, by rw [upd_ne ne]; exact g4, g5, g6.up (same_new h4)⟩
  · obtain ⟨g1, g2, g3⟩ := E.held a x e
    have ne : a ≠ p := fun q2 => g3 i d q (by rw [h2, q2]; simp)
    exact ⟨g1, by rw [upd_ne ne]; exact g2, fun j e' z => g3 j e' (other z).2⟩
theorem stp_give {i : Nat} {d : D} {G' : Hp} (s : Same G G') : Stp ρ O G H (ρ.set i (.val d)) O G' H := ⟨s⟩
end
theorem rdE_hold {F : Fx} {m : M D} {fr : Bool} {σ : L2.St} {H : Hp} {Q : VK} (h : ∃ G ρ O, Er F G H σ ρ O ∧ match m ρ with
  | .ok d ρ' => ∀ v G' H' O', Er F G' H' σ ρ' O' → Stp ρ O G H ρ' O' G' H' → Rp F.K G' v d → Q v H'
  | .exc x ρ' => Xc F σ x ρ' G
  | .bad => False) : rdE F m fr σ H Q := by
  obtain ⟨G, ρ, O, E, h⟩ := h
  refine ⟨G, ρ, O, E, ?_⟩
  cases e : m ρ with
  | ok d ρ' =>
    rw [e] at h
    intro v G' H' O' E' s r
    obtain ⟨G2, s2, E2, r2⟩ := E'.hold r
    exact h v G2 H' O' E2 (s.trans (.ofG s2)) r2
  | exc x ρ' => rw [e] at h; exact h
  | bad => rw [e] at h; exact h
end Dv
namespace Dv
open PySem L2 PyProof.Rows
theorem tuple_mul1 (l : Addr) (items : Array Value) (n : Nat) (dd : Option Addr) (sl : Array (Option Value)) (x : Int) (u : Tok) (c0 : (decide (x < -(2 ^ 63)) || decide (x ≥ 2 ^ 63)) = false) (c1 : (items.isEmpty || x == 1) = true) :
    Meets (Builtin.«tuple.__mul__» ⟨[.ref l, .int x u], []⟩) (fun _ R s => s.heap.get? l = some { cls := .type "tuple", dict := dd, data := .seq items n, slots := sl } ∧
      R (.ok (.ret (Value.ref l))) s) :=
  .of_wp fun prog w A R s h => by
    obtain ⟨hp, g, d, tk, os⟩ := s
    obtain ⟨hl, h⟩ := h
    have f1 := AutoSeq1.idx_int
    wp_walk using wpAny_loadPart' hl
    repeat (first
      | (refine wpAny_ite_false (decide_eq_false (by rw [c0]; exact Bool.false_ne_true)) ?_; wp_walk using wpAny_loadPart' hl)
      | (refine wpAny_ite_true (decide_eq_true (by rw [c1])) ?_; wp_walk using wpAny_loadPart' hl))
    exact ⟨_, rfl, h⟩
theorem tuple_mul0 (l : Addr) (items : Array Value) (n : Nat) (dd : Option Addr) (sl : Array (Option Value)) (x : Int) (u : Tok) (c0 : (decide (x < -(2 ^ 63)) || decide (x ≥ 2 ^ 63)) = false) (c1 : (items.isEmpty || x == 1) = false) (c2 : (decide (x ≤ 0) || items.isEmpty) = true) :
    Meets (Builtin.«tuple.__mul__» ⟨[.ref l, .int x u], []⟩) (fun _ R s => s.heap.get? l = some { cls := .type "tuple", dict := dd, data := .seq items n, slots := sl } ∧
      R (.ok (.ret (Value.ref s.heap.objs.size))) { s with heap := s.heap.push { cls := Value.type "tuple", data := Data.seq #[] }, toks := s.toks }) :=
  .of_wp fun prog w A R s h => by
    obtain ⟨hp, g, d, tk, os⟩ := s
    obtain ⟨hl, h⟩ := h
    have f1 := AutoSeq1.idx_int
    wp_walk using wpAny_loadPart' hl
    repeat (first
      | (refine wpAny_ite_false (decide_eq_false (by rw [c0]; exact Bool.false_ne_true)) ?_; wp_walk using wpAny_loadPart' hl)
      | (refine wpAny_ite_false (decide_eq_false (by rw [c1]; exact Bool.false_ne_true)) ?_; wp_walk using wpAny_loadPart' hl)
      | (refine wpAny_ite_true (decide_eq_true (by rw [c2])) ?_; wp_walk using wpAny_loadPart' hl))
    exact ⟨_, rfl, h⟩

theorem flat_rep_len {α : Type} (a : List α) : ∀ k : Nat, (List.replicate k a).flatten.length = a.length * k
  | 0 => rfl
  | k + 1 => by rw [List.replicate_succ, List.flatten_cons, List.length_append, flat_rep_len a k, Nat.mul_succ, Nat.add_comm]
section
variable {X : Cx}
def rRepTA (K : PySem.W.Frag) : R2 := fun x y H Q => ∃ l k xs, x = .ref l ∧ y = .int k ∧ SqT K H l xs ∧ -(2 ^ 63) ≤ k ∧ k < 2 ^ 63 ∧ xs.length * k.toNat ≤ 16000000 ∧
  ((xs = [] ∨ k = 1) → Q (.ref l) H) ∧ (¬ (xs = [] ∨ k = 1) → ∀ p, H p = none → Q (.ref p) (upd H p (.tup (List.replicate k.toNat xs).flatten)))
/-- a tuple times any int -/
theorem op_repTA : OpR X (binaryOp .Mult) (rRepTA X.K) := by
  intro pins s σ H x y v u Q I rx ry h
  obtain ⟨l, k, xs, rfl, rfl, hT, h1, h2, hz, q1, q2⟩ := h
  cases rx
  obtain ⟨t, rfl⟩ := ry
  obtain ⟨its, r, ⟨⟨cls, dd, data, sl⟩, ho, hc, n, hd⟩, hs⟩ := I.tuple hT
  simp only at hc hd
  subst hc hd
  have hle : its.length = xs.length := r.length.symm
  have he : its.toArray.isEmpty = decide (xs = []) := by
    cases r <;> simp
  have c0 : (decide (k < -(2 ^ 63)) || decide (k ≥ 2 ^ 63)) = false := by
    rw [decide_eq_false (by omega), decide_eq_false (by omega)] <;> rfl
  have go : ∀ {R : Result → Shared → Prop}, (∀ (prog : Program) (w : World) (A : Around), True) → True := fun _ => trivial
  by_cases hk : xs = [] ∨ k = 1
  · have c1 : (its.toArray.isEmpty || k == 1) = true := by
      rw [he]
      rcases hk with e | e
      · rw [decide_eq_true e]; rfl
      · rw [e]; simp
    refine wpAny_binaryOp_repeat_ref (T := "tuple") (U := "int") (by decide) ⟨_, ho, rfl⟩ (fun s' => typeIs_int s' k t) noFill_tuple_mul F.fills_int_mul F.slot_int_rmul repeat_tuple F.slot_int_index.lookup
      (call_meets F.slot_int_rmul (typeIs_int s k t) F.entry_int_rmul (F.args_int_rmul_2 _ _) (int_rmul_tuple k t l its.toArray n dd sl)
        ⟨ho, rfl, ⟨_, ho, rfl⟩, call_meets F.slot_tuple_mul ⟨_, ho, rfl⟩ F.entry_tuple_mul (F.args_tuple_mul_2 _ _) (tuple_mul1 l its.toArray n dd sl k t c0 c1) ⟨ho, ?_⟩⟩)
    exact ⟨.ref l, H, I, rfl, q1 hk⟩
  · have hn : xs ≠ [] := fun e => hk (.inl e)
    have h1' : k ≠ 1 := fun e => hk (.inr e)
    have hi : its.toArray.isEmpty = false := by rw [he, decide_eq_false hn]
    have c1 : (its.toArray.isEmpty || k == 1) = false := by
      rw [hi, Bool.false_or]
      exact beq_eq_false_iff_ne.mpr h1'
    by_cases h0 : k ≤ 0
    · have c2 : (decide (k ≤ 0) || its.toArray.isEmpty) = true := by rw [decide_eq_true h0]; rfl
      refine wpAny_binaryOp_repeat_ref (T := "tuple") (U := "int") (by decide) ⟨_, ho, rfl⟩ (fun s' => typeIs_int s' k t) noFill_tuple_mul F.fills_int_mul F.slot_int_rmul repeat_tuple F.slot_int_index.lookup
        (call_meets F.slot_int_rmul (typeIs_int s k t) F.entry_int_rmul (F.args_int_rmul_2 _ _) (int_rmul_tuple k t l its.toArray n dd sl)
          ⟨ho, rfl, ⟨_, ho, rfl⟩, call_meets F.slot_tuple_mul ⟨_, ho, rfl⟩ F.entry_tuple_mul (F.args_tuple_mul_2 _ _) (tuple_mul0 l its.toArray n dd sl k t c0 c1 c2) ⟨ho, ?_⟩⟩)
      have e0 : (List.replicate k.toNat xs).flatten = [] := by rw [show k.toNat = 0 by omega]; rfl
      have q := q2 hk
      rw [e0] at q
      refine ⟨.ref s.heap.objs.size, _, I.laid (t' := s.toks) (o := .tup []) (fun b ob q => Heap.get?_push_of_some _ q) (Nat.le_refl _) ?_, rfl, q _ (I.hok.fresh (Nat.le_refl _))⟩
      exact ⟨Nat.zero_le _, [], .nil, IsTup.new _ _⟩
    · have flen : (List.replicate k.toNat its).flatten.length ≤ sizeLine := by
        rw [flat_rep_len, hle, sizeLine_eq]
        omega
      have hsz0 : its.toArray.size = xs.length := by rw [List.size_toArray, hle]
      have hm : ((its.toArray.size : Nat) : Int) * k ≤ 16000000 := by
        rw [hsz0]
        have e : ((xs.length * k.toNat : Nat) : Int) = (xs.length : Int) * k := by
          rw [Int.natCast_mul, Int.toNat_of_nonneg (by omega)]
        omega
      have c2 : (decide (k ≤ 0) || its.toArray.isEmpty) = false := by
        rw [hi, Bool.or_false]
        exact decide_eq_false h0
      have c4 : Builtin.Tuple.tupleTooMany (((its.toArray.size : Nat) : Int) * k) = false := by
        unfold Builtin.Tuple.tupleTooMany
        rw [sizeLine_eq]
        exact decide_eq_false (by omega)
      refine wpAny_binaryOp_repeat_ref (T := "tuple") (U := "int") (by decide) ⟨_, ho, rfl⟩ (fun s' => typeIs_int s' k t) noFill_tuple_mul F.fills_int_mul F.slot_int_rmul repeat_tuple F.slot_int_index.lookup
        (call_meets F.slot_int_rmul (typeIs_int s k t) F.entry_int_rmul (F.args_int_rmul_2 _ _) (int_rmul_tuple k t l its.toArray n dd sl)
          ⟨ho, rfl, ⟨_, ho, rfl⟩, call_meets F.slot_tuple_mul ⟨_, ho, rfl⟩ F.entry_tuple_mul (F.args_tuple_mul_2 _ _) (tuple_mulW l its.toArray n dd sl k t c0 c1 c2 (by omega) c4 (by rw [size_rep, List.size_toArray]; exact flen)) ⟨ho, ?_⟩⟩)
      rw [size_rep]
      refine ⟨.ref s.heap.objs.size, _, I.laid (t' := s.toks) (o := .tup (List.replicate k.toNat xs).flatten) (fun b ob q => Heap.get?_push_of_some _ q) (Nat.le_refl _) ?_, rfl, q2 hk _ (I.hok.fresh (Nat.le_refl _))⟩
      exact ⟨by rw [flat_rep_len, sizeLine_eq]; omega, _, r.rep k.toNat, IsTup.new _ _⟩
theorem foldl_app {α : Type} : ∀ (l : List (Array α)) (a : Array α), l.foldl (· ++ ·) a = a ++ (l.map Array.toList).flatten.toArray
  | [], a => by simp
  | x :: r, a => by
    rw [List.foldl_cons, foldl_app r, List.map_cons, List.flatten_cons, Array.append_assoc]
    congr 1
    apply Array.toList_inj.mp
    simp
/-- a text times an int -/
theorem op_repS : OpR X (binaryOp .Mult) (fun x y H Q => ∃ z k, x = .str z ∧ y = .int k ∧ -(2 ^ 63) ≤ k ∧ k < 2 ^ 63 ∧ z.length * k.toNat ≤ 16000000 ∧ Q (.str ⟨((List.replicate k.toNat z.cps.toList).flatten).toArray⟩) H) := by
  intro pins s σ H x y v u Q I rx ry h
  obtain ⟨z, k, rfl, rfl, h0, h1, h2, q⟩ := h
  obtain ⟨t, rfl⟩ := rx
  obtain ⟨t', rfl⟩ := ry
  have hz : z.length = z.cps.toList.length := by simp [Str.length]
  refine PySem.P.mul_str (by rw [decide_eq_false (by omega), decide_eq_false (by omega)] <;> rfl) (fun a b => ?_) (fun a b => ?_) ?_
  · have e : ((z.length * k.toNat : Nat) : Int) = (z.length : Int) * k := by
      rw [Int.natCast_mul, Int.toNat_of_nonneg (by omega)]
    have h3 : (z.length : Int) * k ≤ 16000000 := by omega
    intro h4
    have h5 := Int.ediv_mul_le (2 ^ 63 - 1) (show k ≠ 0 by omega)
    have h6 := Int.lt_ediv_add_one_mul_self (2 ^ 63 - 1) (show 0 < k by omega)
    have h7 : ((2 ^ 63 - 1) / k + 1) * k ≤ (z.length : Int) * k := Int.mul_le_mul_of_nonneg_right (by omega) (by omega)
    omega
  · unfold Builtin.Str.tooLong
    rw [sizeLine_eq]
    exact decide_eq_false (by omega)
  · by_cases hk : k < 1
    · rw [if_pos hk]
      have e0 : (⟨((List.replicate k.toNat z.cps.toList).flatten).toArray⟩ : Str) = Str.empty := by
        rw [show k.toNat = 0 by omega]
        rfl
      rw [e0] at q
      exact ⟨by decide, .str Str.empty, H, I.tok _, ⟨_, rfl⟩, q⟩
    · rw [if_neg hk]
      by_cases hc : (k == 1 || z.length == 0) = true
      · rw [if_pos hc]
        have e1 : (⟨((List.replicate k.toNat z.cps.toList).flatten).toArray⟩ : Str) = z := by
          obtain ⟨cs⟩ := z
          rcases Bool.or_eq_true_iff.mp hc with e | e
          · have e' : k = 1 := eq_of_beq e
            subst e'
            simp [List.replicate]
          · have e' : cs.size = 0 := eq_of_beq e
            have e2 : cs.toList = [] := by
              apply List.eq_nil_of_length_eq_zero
              simpa using e'
            have e3 : cs = #[] := Array.eq_empty_of_size_eq_zero e'
            rw [e2, e3]
            simp
        rw [e1] at q
        exact ⟨.str z, H, I, ⟨_, rfl⟩, q⟩
      · rw [if_neg hc]
        have e1 : ((List.replicate k.toNat z.cps).foldl (· ++ ·) #[]) = ((List.replicate k.toNat z.cps.toList).flatten).toArray := by
          rw [foldl_app]
          simp
        rw [e1]
        refine ⟨?_, .str _, H, I.tok _, ⟨_, rfl⟩, q⟩
        show (((List.replicate k.toNat z.cps.toList).flatten).toArray).size ≤ sizeLine
        rw [List.size_toArray, flat_rep_len, sizeLine_eq, ← hz]
        omega
end
end Dv
namespace Dv
open PySem L2

/-! ### what is read, by its kind -/
section
variable {K : Frg} {G H : Hp} {x : V}
theorem Vw.int' {i : Int} (h : Vw K G H x (.int i)) : x = .int i := by
  rcases h with h | ⟨p, o, _, _, h⟩
  · exact (by cases h; rfl)
  · cases h
theorem Vw.bl' {i : Bool} (h : Vw K G H x (.bl i)) : x = .bl i := by
  rcases h with h | ⟨p, o, _, _, h⟩
  · exact (by cases h; rfl)
  · cases h
theorem Vw.str' {i : Str} (h : Vw K G H x (.str i)) : x = .str i := by
  rcases h with h | ⟨p, o, _, _, h⟩
  · exact (by cases h; rfl)
  · cases h
theorem Vw.non' (h : Vw K G H x .non) : x = .non := by
  rcases h with h | ⟨p, o, _, _, h⟩
  · exact (by cases h; rfl)
  · cases h
theorem Vw.tup' {ds : List D} (h : Vw K G H x (.tup ds)) : ∃ a xs, x = .ref a ∧ SqT K G a xs ∧ RpAll K G xs ds := by
  rcases h with h | ⟨p, o, _, _, h⟩
  · cases h with
    | tup h1 h2 => exact ⟨_, _, rfl, h1, h2⟩
  · cases h
theorem Vw.lst' {ds : List D} (e : Same G H) (h : Vw K G H x (.lst ds)) : ∃ a xs, x = .ref a ∧ H a = some (.lst xs) ∧ RpAll K G xs ds := by
  rcases h with h | ⟨p, o, rfl, h1, h⟩
  · cases h with
    | lst h1 h2 => exact ⟨_, _, rfl, e _ _ h1, h2⟩
  · cases h with
    | lst h2 => exact ⟨_, _, rfl, h1, h2⟩
theorem Vw.dic' {ks : List L2.Key} {ds : List D} (e : Same G H) (h : Vw K G H x (.dic ks ds)) : ∃ a xs, x = .ref a ∧ H a = some (.dK (ks.zip xs)) ∧ ks.length = xs.length ∧ RpAll K G xs ds := by
  rcases h with h | ⟨p, o, rfl, h1, h⟩
  · cases h with
    | dic h1 h2 h3 => exact ⟨_, _, rfl, e _ _ h1, h2, h3⟩
  · cases h with
    | dic h2 h3 => exact ⟨_, _, rfl, h1, h2, h3⟩
theorem Vw.scr' {ns : List Int} (h : Vw K G H x (.scr ns)) : ∃ a, x = .ref a ∧ SqL K G a (ns.map V.int) := by
  rcases h with h | ⟨p, o, _, _, h⟩
  · cases h with
    | scr h1 => exact ⟨_, rfl, h1⟩
  · cases h
end

/-! ### the results that need no heap -/
section
variable {F : Fx} {G H : Hp} {σ : L2.St} {ρ : En} {O : Nat → List Addr} {fr : Bool}
theorem rv_val {v : V} {d : D} (m : isMut d = false) (h : Rp F.K G v d) : Rv F G H ρ O fr v d := .inr ⟨fun _ => m, h⟩
theorem rv_int {i : Int} : Rv F G H ρ O fr (.int i) (.int i) := rv_val rfl (.int i)
theorem rv_bl {i : Bool} : Rv F G H ρ O fr (.bl i) (.bl i) := rv_val rfl (.bl i)
theorem rv_str {i : Str} : Rv F G H ρ O fr (.str i) (.str i) := rv_val rfl (.str i)
theorem rv_non : Rv F G H ρ O fr .non .non := rv_val rfl .non
/-- what is wanted of a value, and what is given by a new one -/
def Wants (F : Fx) (G H : Hp) (σ : L2.St) (ρ : En) (O : Nat → List Addr) (fr : Bool) (d : D) (Q : VK) : Prop := ∀ v G' H' O', Er F G' H' σ ρ O' → Stp ρ O G H ρ O' G' H' → Rv F G' H' ρ O' fr v d → Q v H'
theorem Er.new_tup (E : Er F G H σ ρ O) {xs : List V} {ds : List D} {Q : VK} (h : RpAll F.K G xs ds) (w : Wants F G H σ ρ O fr (.tup ds) Q) : ∀ p, H p = none → Q (.ref p) (upd H p (.tup xs)) := fun p hp =>
  w _ _ _ _ (E.froz hp) (.ofH (same_new (E.gnone hp)) (same_new hp)) (rv_val rfl (.tup (.inl (.inl upd_same)) (h.up (same_new (E.gnone hp)))))
theorem Er.new_lst (E : Er F G H σ ρ O) {xs : List V} {ds : List D} {Q : VK} (h : RpAll F.K G xs ds) (w : Wants F G H σ ρ O true (.lst ds) Q) : ∀ p, H p = none → Q (.ref p) (upd H p (.lst xs)) := fun p hp =>
  w _ _ _ _ (E.fresh hp) (.ofH srfl (same_new hp)) (.inl ⟨p, _, rfl, rfl, upd_same, E.gnone hp, E.h0none hp, E.bnone hp, E.notown hp, .lst h⟩)
theorem Er.new_dic (E : Er F G H σ ρ O) {ks : List L2.Key} {xs : List V} {ds : List D} {Q : VK} (l : ks.length = xs.length) (h : RpAll F.K G xs ds) (w : Wants F G H σ ρ O true (.dic ks ds) Q) : ∀ p, H p = none → Q (.ref p) (upd H p (.dK (ks.zip xs))) := fun p hp =>
  w _ _ _ _ (E.fresh hp) (.ofH srfl (same_new hp)) (.inl ⟨p, _, rfl, rfl, upd_same, E.gnone hp, E.h0none hp, E.bnone hp, E.notown hp, .dic l h⟩)
theorem Wants.fr_false {d : D} {Q : VK} (m : isMut d = false) (w : Wants F G H σ ρ O false d Q) : Wants F G H σ ρ O true d Q := fun v G' H' O' E s r => w v G' H' O' E s (by
  rcases r with ⟨p, o, _, _, _, _, _, _, _, h5⟩ | ⟨_, h⟩
  · rw [h5.mut] at m; cases m
  · exact .inr ⟨(fun e => nomatch e), h⟩)
end

/-! ### operations on two values -/
def Op2g (F : Fx) (f : D → D → Option D) (fr : Bool) (r : R2) : Prop := ∀ G H σ ρ O x y a b d (Q : VK), Er F G H σ ρ O → Vw F.K G H x a → Vw F.K G H y b → f a b = some d → Wants F G H σ ρ O fr d Q → r x y H Q
abbrev Op2 (F : Fx) (f : D → D → Option D) (r : R2) : Prop := Op2g F f true r
section
variable {F : Fx}
theorem Op2.alt {f g : D → D → Option D} {r q : R2} (h : Op2 F f r) (k : Op2 F g q) : Op2 F (fun a b => f a b <|> g a b) (fun x y H Q => r x y H Q ∨ q x y H Q) := by
  intro G H σ ρ O x y a b d Q E va vb e w
  cases hf : f a b with
  | some c =>
    have e' : (f a b <|> g a b) = some d := e
    rw [hf] at e'
    replace e' : some c = some d := e'
    cases e'
    exact .inl (h G H σ ρ O x y a b _ Q E va vb hf w)
  | none =>
    have e' : (f a b <|> g a b) = some d := e
    rw [hf] at e'
    replace e' : g a b = some d := e'
    exact .inr (k G H σ ρ O x y a b _ Q E va vb e' w)
theorem op2_int {C : Int → Int → Prop} [∀ i j, Decidable (C i j)] {g : Int → Int → Int} {r : R2} (hr : r = rI C fun i j => .int (g i j)) {f : D → D → Option D}
    (hf : ∀ a b, f a b = match a, b with | .int i, .int j => (if C i j then some (.int (g i j)) else none) | _, _ => none) : Op2 F f r := by
  intro G H σ ρ O x y a b d Q E va vb e w
  rw [hf] at e
  subst hr
  split at e
  · rename_i i j
    split at e
    · rename_i hc
      cases e
      exact ⟨i, j, va.int', vb.int', hc, w _ _ _ _ E strf rv_int⟩
    · cases e
  · cases e
theorem op2_cmp {g : Int → Int → Bool} {r : R2} (hr : r = rI0 fun i j => .bl (g i j)) {f : D → D → Option D}
    (hf : ∀ a b, f a b = match a, b with | .int i, .int j => some (.bl (g i j)) | _, _ => none) : Op2 F f r := by
  intro G H σ ρ O x y a b d Q E va vb e w
  rw [hf] at e
  subst hr
  split at e
  · rename_i i j
    cases e
    exact ⟨i, j, va.int', vb.int', w _ _ _ _ E strf rv_bl⟩
  · cases e
end

/-! ### the operations as data -/
instance (i j : Int) : Decidable (CMul i j) := by unfold CMul; infer_instance
instance (i j : Int) : Decidable (CMulX i j) := by unfold CMulX; infer_instance
instance (i j : Int) : Decidable (CShl i j) := by unfold CShl; infer_instance
instance (i j : Int) : Decidable (CPow i j) := by unfold CPow; infer_instance
instance (i j : Int) : Decidable (CDiv i j) := by unfold CDiv; infer_instance
instance (i j : Int) : Decidable (CDivW i j) := by unfold CDivW; infer_instance

def addD : D → D → Option D
  | .int i, .int j => some (.int (i + j))
  | .str a, .str b => if a.length + b.length ≤ sizeLine then some (.str (a ++ b)) else none
  | .tup a, .tup b => if a.length + b.length ≤ sizeLine then some (.tup (a ++ b)) else none
  | .lst a, .lst b => if a.length + b.length ≤ sizeLine then some (.lst (a ++ b)) else none
  | _, _ => none
def subD : D → D → Option D
  | .int i, .int j => some (.int (i - j))
  | _, _ => none
def MulOk (i j : Int) : Prop := CMul i j ∨ CMulX i j
instance (i j : Int) : Decidable (MulOk i j) := by unfold MulOk; infer_instance
def mulD : D → D → Option D
  | .int i, .int j => if MulOk i j then some (.int (i * j)) else none
  | .lst a, .int k => if -(2 ^ 63) ≤ k ∧ k < 2 ^ 63 ∧ a.length * k.toNat ≤ sizeLine then some (.lst (List.replicate k.toNat a).flatten) else none
  | .tup a, .int k => if -(2 ^ 63) ≤ k ∧ k < 2 ^ 63 ∧ a.length * k.toNat ≤ 16000000 then some (.tup (List.replicate k.toNat a).flatten) else none
  | .str a, .int k => if -(2 ^ 63) ≤ k ∧ k < 2 ^ 63 ∧ a.length * k.toNat ≤ 16000000 then some (.str ⟨((List.replicate k.toNat a.cps.toList).flatten).toArray⟩) else none
  | _, _ => none
def fdivD : D → D → Option D
  | .int i, .int j => if CDiv i j then some (.int (i / j)) else if CDivW i j then some (.int (i / j)) else none
  | _, _ => none
def modD : D → D → Option D
  | .int i, .int j => if 0 < j then some (.int (i % j)) else none
  | _, _ => none
def powD : D → D → Option D
  | .int i, .int j => if CPow i j then some (.int (i ^ j.toNat)) else none
  | _, _ => none
def shlD : D → D → Option D
  | .int i, .int j => if CShl i j then some (.int (i * 2 ^ j.toNat)) else none
  | _, _ => none
def shrD : D → D → Option D
  | .int i, .int j => if 0 ≤ j then some (.int (i / 2 ^ j.toNat)) else none
  | _, _ => none
def andD : D → D → Option D
  | .int i, .int j => some (.int (Builtin.bitAnd i j))
  | _, _ => none
def orD : D → D → Option D
  | .int i, .int j => some (.int (Builtin.bitOr i j))
  | _, _ => none
def xorD : D → D → Option D
  | .int i, .int j => some (.int (Builtin.bitXor i j))
  | _, _ => none

section
variable {X : Cx} {F : Fx}
theorem op2_add (hK : X.K = F.K) : ∃ r, OpR X (binaryOp .Add) r ∧ Op2 F addD r := by
  refine ⟨_, op_add.or (op_add_str.or (op_catA.or op_cat)), ?_⟩
  intro G H σ ρ O x y a b d Q E va vb e w
  unfold addD at e
  split at e
  · cases e
    exact .inl ⟨_, _, va.int', vb.int', w _ _ _ _ E strf rv_int⟩
  · split at e
    · rename_i hz
      cases e
      exact .inr (.inl ⟨_, _, va.str', vb.str', hz, w _ _ _ _ E strf rv_str⟩)
    · cases e
  · split at e
    · rename_i u z hz
      cases e
      obtain ⟨p, xs, rfl, h1, h2⟩ := va.tup'
      obtain ⟨q, ys, rfl, h3, h4⟩ := vb.tup'
      refine .inr (.inr (.inl ⟨p, q, xs, ys, rfl, rfl, ?_, ?_, by rw [h2.length, h4.length]; exact hz, fun e => ?_, fun _ e => ?_, fun _ _ => E.new_tup (h2.append h4) w⟩))
      · rw [hK]; exact sqT_up E.gh h1
      · rw [hK]; exact sqT_up E.gh h3
      · subst e
        cases h2
        exact w _ _ _ _ E strf (rv_val rfl (.tup h3 h4))
      · subst e
        cases h4
        rw [List.append_nil] at w
        exact w _ _ _ _ E strf (rv_val rfl (.tup h1 h2))
    · cases e
  · split at e
    · rename_i u z hz
      cases e
      obtain ⟨p, xs, rfl, h1, h2⟩ := va.lst' E.gh
      obtain ⟨q, ys, rfl, h3, h4⟩ := vb.lst' E.gh
      exact .inr (.inr (.inr ⟨p, q, xs, ys, rfl, rfl, h1, h3, by rw [h2.length, h4.length]; exact hz, E.new_lst (h2.append h4) w⟩))
    · cases e
  · cases e
theorem op2_sub : ∃ r, OpR X (binaryOp .Sub) r ∧ Op2 F subD r := by
  refine ⟨_, op_sub, ?_⟩
  intro G H σ ρ O x y a b d Q E va vb e w
  unfold subD at e
  split at e
  · cases e
    exact ⟨_, _, va.int', vb.int', w _ _ _ _ E strf rv_int⟩
  · cases e
theorem op2_fdiv : ∃ r, OpR X (binaryOp .FloorDiv) r ∧ Op2 F fdivD r := by
  refine ⟨_, op_fdiv.or op_fdivW, ?_⟩
  intro G H σ ρ O x y a b d Q E va vb e w
  unfold fdivD at e
  split at e
  · split at e
    · rename_i hc
      cases e
      exact .inl ⟨_, _, va.int', vb.int', hc, w _ _ _ _ E strf rv_int⟩
    · split at e
      · rename_i hc
        cases e
        exact .inr ⟨_, _, va.int', vb.int', hc, w _ _ _ _ E strf rv_int⟩
      · cases e
  · cases e
theorem op2_mod : ∃ r, OpR X (binaryOp .Mod) r ∧ Op2 F modD r := by
  refine ⟨_, op_mod, ?_⟩
  intro G H σ ρ O x y a b d Q E va vb e w
  unfold modD at e
  split at e
  · split at e
    · rename_i hc
      cases e
      exact ⟨_, _, va.int', vb.int', hc, w _ _ _ _ E strf rv_int⟩
    · cases e
  · cases e
theorem op2_pow : ∃ r, OpR X (binaryOp .Pow) r ∧ Op2 F powD r := ⟨_, op_pow, op2_int rfl fun a b => by unfold powD; rfl⟩
theorem op2_shl : ∃ r, OpR X (binaryOp .LShift) r ∧ Op2 F shlD r := ⟨_, op_shlW, op2_int rfl fun a b => by unfold shlD; rfl⟩
theorem op2_shr : ∃ r, OpR X (binaryOp .RShift) r ∧ Op2 F shrD r := ⟨_, op_shr, op2_int rfl fun a b => by unfold shrD; rfl⟩
theorem op2_band : ∃ r, OpR X (binaryOp .BitAnd) r ∧ Op2 F andD r := by
  refine ⟨_, op_and, ?_⟩
  intro G H σ ρ O x y a b d Q E va vb e w
  unfold andD at e
  split at e
  · cases e
    exact ⟨_, _, va.int', vb.int', w _ _ _ _ E strf rv_int⟩
  · cases e
theorem op2_bor : ∃ r, OpR X (binaryOp .BitOr) r ∧ Op2 F orD r := by
  refine ⟨_, op_or, ?_⟩
  intro G H σ ρ O x y a b d Q E va vb e w
  unfold orD at e
  split at e
  · cases e
    exact ⟨_, _, va.int', vb.int', w _ _ _ _ E strf rv_int⟩
  · cases e
theorem op2_bxor : ∃ r, OpR X (binaryOp .BitXor) r ∧ Op2 F xorD r := by
  refine ⟨_, op_xor, ?_⟩
  intro G H σ ρ O x y a b d Q E va vb e w
  unfold xorD at e
  split at e
  · cases e
    exact ⟨_, _, va.int', vb.int', w _ _ _ _ E strf rv_int⟩
  · cases e
theorem rp_rep {K : Frg} {H : Hp} {xs : List V} {ds : List D} (h : RpAll K H xs ds) : ∀ n : Nat, RpAll K H (List.replicate n xs).flatten (List.replicate n ds).flatten
  | 0 => .nil
  | n + 1 => by rw [List.replicate_succ, List.replicate_succ, List.flatten_cons, List.flatten_cons]; exact h.append (rp_rep h n)
theorem op2_mul (hK : X.K = F.K) : ∃ r, OpR X (binaryOp .Mult) r ∧ Op2 F mulD r := by
  refine ⟨_, op_mul.or (op_mulX.or (op_rep.or (op_repTA.or op_repS))), ?_⟩
  intro G H σ ρ O x y a b d Q E va vb e w
  unfold mulD at e
  split at e
  · split at e
    · rename_i i j hc
      cases e
      rcases hc with hc | hc
      · exact .inl ⟨_, _, va.int', vb.int', hc, w _ _ _ _ E strf rv_int⟩
      · exact .inr (.inl ⟨_, _, va.int', vb.int', hc, w _ _ _ _ E strf rv_int⟩)
    · cases e
  · split at e
    · rename_i u k hc
      cases e
      obtain ⟨p, xs, rfl, h1, h2⟩ := va.lst' E.gh
      exact .inr (.inr (.inl ⟨p, k, xs, rfl, vb.int', h1, hc.1, hc.2.1, by rw [h2.length]; exact hc.2.2, E.new_lst (rp_rep h2 _) w⟩))
    · cases e
  · split at e
    · rename_i u k hc
      cases e
      obtain ⟨p, xs, rfl, h1, h2⟩ := va.tup'
      refine .inr (.inr (.inr (.inl ⟨p, k, xs, rfl, vb.int', by rw [hK]; exact sqT_up E.gh h1, hc.1, hc.2.1, by rw [h2.length]; exact hc.2.2, fun e => ?_, fun _ => E.new_tup (rp_rep h2 _) w⟩)))
      rcases e with e | e
      · subst e
        cases h2
        refine w _ _ _ _ E strf (rv_val rfl (.tup h1 ?_))
        have := rp_rep (K := F.K) (H := G) .nil k.toNat
        rw [show (List.replicate k.toNat ([] : List V)).flatten = [] by simp] at this
        exact this
      · subst e
        refine w _ _ _ _ E strf (rv_val rfl (.tup h1 ?_))
        have := rp_rep h2 1
        rw [show (List.replicate 1 xs).flatten = xs by simp [List.replicate]] at this
        exact this
    · cases e
  · split at e
    · rename_i u k hc
      cases e
      exact .inr (.inr (.inr (.inr ⟨_, _, va.str', vb.int', hc.1, hc.2.1, hc.2.2, w _ _ _ _ E strf rv_str⟩)))
    · cases e
  · cases e
def op2D : Operator → Option (D → D → Option D)
  | .Add => some addD | .Sub => some subD | .Mult => some mulD | .FloorDiv => some fdivD | .Mod => some modD | .Pow => some powD
  | .LShift => some shlD | .RShift => some shrD | .BitAnd => some andD | .BitOr => some orD | .BitXor => some xorD | _ => none
theorem op2_ok (hK : X.K = F.K) {op : Operator} {f : D → D → Option D} (h : op2D op = some f) : ∃ r, OpR X (binaryOp op) r ∧ Op2 F f r := by
  cases op <;> simp only [op2D, Option.some.injEq, reduceCtorEq] at h <;> subst h
  · exact op2_add hK
  · exact op2_sub
  · exact op2_mul hK
  · exact op2_mod
  · exact op2_pow
  · exact op2_shl
  · exact op2_shr
  · exact op2_bor
  · exact op2_bxor
  · exact op2_band
  · exact op2_fdiv
end
end Dv
namespace Dv
open PySem L2 PyProof.Rows

/-! ### operands: a name is looked up when all others are there -/
inductive Opd where
  | ex (m : M D) | va (i : Nat)
def slD : Option Sl → Option D
  | some (.val d) => some d
  | some (.own d) => some d
  | _ => none
def evO : List Opd → M (List D)
  | [] => fun ρ => .ok [] ρ
  | .ex m :: os => fun ρ => (m ρ).bind fun d ρ1 => (evO os ρ1).bind fun ds ρ2 => .ok (d :: ds) ρ2
  | .va i :: os => fun ρ => match slD ρ[i]? with
    | none => .bad
    | some _ => (evO os ρ).bind fun ds ρ2 => match slD ρ2[i]? with
      | some d => .ok (d :: ds) ρ2
      | none => .bad
/-- what has come of operands -/
inductive Avs (K : Frg) (G : Hp) (σ : L2.St) (ρ : En) : List Opd → List V → List D → Prop
  | nil : Avs K G σ ρ [] [] []
  | ex {m os v vs d ds} : Rp K G v d → Avs K G σ ρ os vs ds → Avs K G σ ρ (.ex m :: os) (v :: vs) (d :: ds)
  | va {i os v vs d ds} : σ[i]? = some (some v) → slD ρ[i]? = some d → Avs K G σ ρ os vs ds → Avs K G σ ρ (.va i :: os) (v :: vs) (d :: ds)
inductive VwAll (K : Frg) (G H : Hp) : List V → List D → Prop
  | nil : VwAll K G H [] []
  | cons {v vs d ds} : Vw K G H v d → VwAll K G H vs ds → VwAll K G H (v :: vs) (d :: ds)
section
variable {F : Fx} {G H : Hp} {σ : L2.St} {ρ : En} {O : Nat → List Addr}
theorem slD_cases {o : Option Sl} {d : D} (h : slD o = some d) : o = some (.val d) ∨ o = some (.own d) := by
  unfold slD at h
  split at h
  · cases h; exact .inl rfl
  · cases h; exact .inr rfl
  · cases h
theorem Er.slot (E : Er F G H σ ρ O) {i : Nat} {d : D} (h : slD ρ[i]? = some d) : ∃ v, σ[i]? = some (some v) ∧ Vw F.K G H v d := by
  rcases slD_cases h with e | e
  · obtain ⟨v, a, b⟩ := E.val i d e
    exact ⟨v, a, .inl b⟩
  · obtain ⟨p, o, h1, h2, h3, h4, h5, h6⟩ := E.own i d e
    exact ⟨_, h1, .inr ⟨p, o, rfl, h3, h6⟩⟩
theorem Avs.vw (E : Er F G H σ ρ O) : ∀ {os vs ds}, Avs F.K G σ ρ os vs ds → VwAll F.K G H vs ds
  | _, _, _, .nil => .nil
  | _, _, _, .ex a t => .cons (.inl a) (Avs.vw E t)
  | _, _, _, .va a b t => by
    obtain ⟨v, h1, h2⟩ := E.slot b
    rw [a] at h1
    cases h1
    exact .cons h2 (Avs.vw E t)
theorem Avs.up {K : Frg} {G G' : Hp} {σ : L2.St} {ρ : En} (e : Same G G') : ∀ {os vs ds}, Avs K G σ ρ os vs ds → Avs K G' σ ρ os vs ds
  | _, _, _, .nil => .nil
  | _, _, _, .ex a t => .ex (a.up e) (Avs.up e t)
  | _, _, _, .va a b t => .va a b (Avs.up e t)
end
def rdO (F : Fx) (os : List Opd) : TA := fun σ H Q => ∃ G ρ O, Er F G H σ ρ O ∧ match evO os ρ with
  | .ok ds ρ' => ∀ vs G' H' O', Er F G' H' σ ρ' O' → Stp ρ O G H ρ' O' G' H' → Avs F.K G' σ ρ' os vs ds → Q vs H'
  | .exc x ρ' => Xc F σ x ρ' G
  | .bad => False
def tList : List TE → TA
  | [] => tNil
  | t :: ts => tCons t (tList ts)
/-- an operand is read -/
inductive Op1 (F : Fx) (X : Cx) (e : Expr) : Opd → TE → Prop
  | va {i : Nat} : PE X e (tVar i) → Op1 F X e (.va i) (tVar i)
  | ex {m : M D} {fr : Bool} : PE X e (rdE F m fr) → Op1 F X e (.ex m) (rdE F m fr)
inductive Ops (F : Fx) (X : Cx) : List Expr → List Opd → List TE → Prop
  | nil : Ops F X [] [] []
  | cons {e es o os t ts} : Op1 F X e o t → Ops F X es os ts → Ops F X (e :: es) (o :: os) (t :: ts)
theorem Op1.pe {F : Fx} {X : Cx} {e : Expr} {o : Opd} {t : TE} (h : Op1 F X e o t) : PE X e t := by
  cases h <;> assumption
theorem Ops.run {F : Fx} {X : Cx} : ∀ {es os ts}, Ops F X es os ts → ∀ σ H Q, rdO F os σ H Q → tList ts σ H Q
  | _, _, _, .nil, σ, H, Q, ⟨G, ρ, O, E, h⟩ => h [] G H O E strf .nil
  | _, _, _, .cons (.ex (m := m) he) r, σ, H, Q, ⟨G, ρ, O, E, h⟩ => by
    refine rdE_hold ⟨G, ρ, O, E, ?_⟩
    unfold evO at h
    cases e1 : m ρ with
    | bad => rw [e1] at h; exact h
    | exc x ρ1 => rw [e1] at h; exact h
    | ok d ρ1 =>
      rw [e1] at h
      intro v G1 H1 O1 E1 s1 r1
      refine Ops.run r σ H1 _ ⟨G1, ρ1, O1, E1, ?_⟩
      simp only [R.bind_ok] at h
      rename_i os _ _
      cases e2 : evO os ρ1 with
      | bad => rw [e2] at h; exact h
      | exc x ρ2 => rw [e2] at h; exact Xc.up h s1.g
      | ok ds ρ2 =>
        rw [e2] at h
        intro vs G2 H2 O2 E2 s2 a2
        exact h _ G2 H2 O2 E2 (s1.trans s2) (.ex (r1.up s2.g) a2)
  | _, _, _, .cons (.va (i := i) he) r, σ, H, Q, ⟨G, ρ, O, E, h⟩ => by
    unfold evO at h
    cases e1 : slD ρ[i]? with
    | none => rw [e1] at h; exact h.elim
    | some d0 =>
      rw [e1] at h
      obtain ⟨v, hv, _⟩ := E.slot e1
      refine ⟨v, hv, Ops.run r σ H _ ⟨G, ρ, O, E, ?_⟩⟩
      simp only at h
      rename_i os _ _
      cases e2 : evO os ρ with
      | bad => rw [e2] at h; exact h
      | exc x ρ2 => rw [e2] at h; exact h
      | ok ds ρ2 =>
        rw [e2] at h
        intro vs G2 H2 O2 E2 s2 a2
        simp only [R.bind_ok] at h
        cases e3 : slD ρ2[i]? with
        | none => rw [e3] at h; exact h.elim
        | some d =>
          rw [e3] at h
          exact h _ G2 H2 O2 E2 s2 (.va hv e3 a2)

/-! ### kinds of expressions -/
def plainE : Expr → Bool
  | .Starred _ _ => false
  | .Slice _ _ _ _ => false
  | .Set _ _ _ => false
  | _ => true
theorem star_of {e : Expr} (h : plainE e = true) (es : List Expr) (env : PySem.Env) : starEach (e :: es) env = (false, eval e env) :: starEach es env := by
  cases e <;> first | rfl | cases h
theorem pa_list {F : Fx} {X : Cx} : ∀ {es os ts}, Ops F X es os ts → es.all plainE = true → PA X es (tList ts)
  | _, _, _, .nil, _ => pa_nil
  | _, _, _, .cons h r, p => by
    rw [List.all_cons, Bool.and_eq_true] at p
    exact pa_cons h.pe (pa_list r p.2) (star_of p.1 _ _)
theorem nostar : ∀ {es : List Expr} (env : PySem.Env) (pos : Pos), es.all plainE = true → (backTo pos (starEach es env)).any (·.1) = false := by
  intro es env pos p
  have h : ∀ es : List Expr, es.all plainE = true → ∀ q ∈ starEach es env, q.1 = false := by
    intro es
    induction es with
    | nil => intro _ q hq; cases hq
    | cons e es ih =>
      intro p q hq
      rw [List.all_cons, Bool.and_eq_true] at p
      rw [star_of p.1] at hq
      rcases List.mem_cons.mp hq with rfl | hq
      · rfl
      · exact ih p.2 q hq
  have h' := h es p
  generalize starEach es env = l at h'
  unfold backTo
  induction l with
  | nil => rfl
  | cons q r ih =>
    first
      | (rw [List.map_cons, List.any_cons, ih fun q hq => h' q (List.mem_cons_of_mem _ hq)]; simp [h' q List.mem_cons_self])
      | simp_all
end Dv
namespace Dv
open PySem L2 PyProof.Rows

/-! ### data for == at any depth -/
mutual
def toPy : D → PyData
  | .non => .none
  | .bl b => .bool b
  | .int i => .int i
  | .str s => .str s
  | .tup xs => .tuple (toPys xs)
  | .lst xs => .list (toPys xs)
  | .dic _ _ => .dict []
  | .scr ns => .list (ns.map PyData.int)
def toPys : List D → List PyData
  | [] => []
  | d :: ds => toPy d :: toPys ds
end
mutual
/-- no dict in it -/
def nodic : D → Bool
  | .dic _ _ => false
  | .tup xs => nodics xs
  | .lst xs => nodics xs
  | _ => true
def nodics : List D → Bool
  | [] => true
  | d :: ds => nodic d && nodics ds
end
theorem dpAll_ints {K : Frg} {H : Hp} : ∀ ns : List Int, DpAll K H (ns.map V.int) (ns.map PyData.int)
  | [] => .nil
  | n :: r => .cons (.int n) (dpAll_ints r)
mutual
theorem rp_dp {K : Frg} {H : Hp} : ∀ (d : D) (v : V), nodic d = true → Rp K H v d → L2.Dp K H v (toPy d)
  | .non, _, _, h => by cases h; exact .non
  | .bl b, _, _, h => by cases h; exact .bl b
  | .int i, _, _, h => by cases h; exact .int i
  | .str x, _, _, h => by cases h; exact .str x
  | .tup ds, _, n, h => by
    cases h with
    | tup h1 h2 => exact .tup h1 (rp_dps ds _ (by simpa [nodic] using n) h2)
  | .lst ds, _, n, h => by
    cases h with
    | lst h1 h2 => exact .lst (.inl (.inl h1)) (rp_dps ds _ (by simpa [nodic] using n) h2)
  | .dic _ _, _, n, _ => by simp [nodic] at n
  | .scr ns, _, _, h => by
    cases h with
    | scr h1 => exact .lst h1 (dpAll_ints ns)
theorem rp_dps {K : Frg} {H : Hp} : ∀ (ds : List D) (vs : List V), nodics ds = true → RpAll K H vs ds → L2.DpAll K H vs (toPys ds)
  | [], _, _, h => by cases h; exact .nil
  | d :: ds, _, n, h => by
    cases h with
    | cons h1 h2 =>
      have n' : nodic d = true ∧ nodics ds = true := by simpa [nodics] using n
      exact .cons (rp_dp d _ n'.1 h1) (rp_dps ds _ n'.2 h2)
end
def shaped? (d : D) : Bool := nodic d && SeqAt.shaped (toPy d)

/-! ### comparisons as data -/
def eqB : D → D → Option Bool
  | .int i, .int j => some (decide (i = j))
  | .bl i, .bl j => some (decide (i = j))
  | .str i, .str j => some (decide (i = j))
  | a, b => if shaped? a && shaped? b then some (PyData.eqv (toPy a) (toPy b)) else none
def eqD (a b : D) : Option D := (eqB a b).map D.bl
def neD (a b : D) : Option D := (eqB a b).map fun c => D.bl (!c)
def ltD : D → D → Option D
  | .int i, .int j => some (.bl (decide (i < j)))
  | .str i, .str j => some (.bl (decide (i.cps.toList < j.cps.toList)))
  | _, _ => none
def leD : D → D → Option D
  | .int i, .int j => some (.bl (decide (i ≤ j)))
  | .str i, .str j => some (.bl (!decide (j.cps.toList < i.cps.toList)))
  | _, _ => none
def gtD : D → D → Option D
  | .int i, .int j => some (.bl (decide (j < i)))
  | .str i, .str j => some (.bl (decide (j.cps.toList < i.cps.toList)))
  | _, _ => none
def geD : D → D → Option D
  | .int i, .int j => some (.bl (decide (j ≤ i)))
  | .str i, .str j => some (.bl (!decide (i.cps.toList < j.cps.toList)))
  | _, _ => none
def isNon : D → Bool
  | .non => true
  | _ => false
def isD : D → D → Option D
  | a, .non => some (.bl (isNon a))
  | _, _ => none
def isntD : D → D → Option D
  | a, .non => some (.bl (!isNon a))
  | _, _ => none
def inB : D → D → Option Bool
  | d, .lst xs => if shaped? d && shaped? (.lst xs) then some (xs.any fun z => PyData.eqv (toPy z) (toPy d)) else none
  | .int i, .tup xs => if xs.all (fun z => match z with | .int _ => true | _ => false) then some (xs.any fun z => match z with | .int j => j == i | _ => false) else none
  | .str i, .tup xs => if xs.all (fun z => match z with | .str _ => true | _ => false) then some (xs.any fun z => match z with | .str j => j == i | _ => false) else none
  | .int i, .dic ks _ => some (ks.any fun k => match k with | .inl j => j == i | _ => false)
  | .str i, .dic ks _ => some (ks.any fun k => match k with | .inr j => j == i | _ => false)
  | _, _ => none
def inD (a b : D) : Option D := (inB a b).map D.bl
def notinD (a b : D) : Option D := (inB a b).map fun c => D.bl (!c)
section
variable {X : Cx} {F : Fx}
theorem eqB_cases {a b : D} {c : Bool} (h : eqB a b = some c) : (∃ i j, a = .int i ∧ b = .int j ∧ c = decide (i = j)) ∨ (∃ i j, a = .bl i ∧ b = .bl j ∧ c = decide (i = j)) ∨ (∃ i j, a = .str i ∧ b = .str j ∧ c = decide (i = j)) ∨
    (shaped? a = true ∧ shaped? b = true ∧ c = PyData.eqv (toPy a) (toPy b)) := by
  unfold eqB at h
  split at h
  · cases h; exact .inl ⟨_, _, rfl, rfl, rfl⟩
  · cases h; exact .inr (.inl ⟨_, _, rfl, rfl, rfl⟩)
  · cases h; exact .inr (.inr (.inl ⟨_, _, rfl, rfl, rfl⟩))
  · split at h
    · rename_i hc
      cases h
      exact .inr (.inr (.inr ⟨(Bool.and_eq_true_iff.mp hc).1, (Bool.and_eq_true_iff.mp hc).2, rfl⟩))
    · cases h
theorem shaped_dp {K : Frg} {H : Hp} {v : V} {d : D} (h : shaped? d = true) (r : Rp K H v d) : L2.Dp K H v (toPy d) ∧ SeqAt.shaped (toPy d) = true :=
  ⟨rp_dp d v (Bool.and_eq_true_iff.mp h).1 r, (Bool.and_eq_true_iff.mp h).2⟩
theorem dec_v {α : Type} [DecidableEq α] {f : α → V} (hf : ∀ a b, f a = f b → a = b) (i j : α) : decide (f i = f j) = decide (i = j) := by
  by_cases h : i = j
  · subst h; simp
  · rw [decide_eq_false h, decide_eq_false fun e => h (hf _ _ e)]
theorem op2_eq (hK : X.K = F.K) (hu : X.A.units + 64 < cLine) : ∃ r, OpR X (compareOp .Eq) r ∧ Op2 F eqD r := by
  refine ⟨_, op_eq.or (op_eqD hu), ?_⟩
  intro G H σ ρ O x y a b d Q E va vb e w
  unfold eqD at e
  cases e1 : eqB a b with
  | none => rw [e1] at e; cases e
  | some c =>
    rw [e1] at e
    cases e
    rcases eqB_cases e1 with ⟨i, j, rfl, rfl, rfl⟩ | ⟨i, j, rfl, rfl, rfl⟩ | ⟨i, j, rfl, rfl, rfl⟩ | ⟨h1, h2, rfl⟩
    · refine .inl ⟨by rw [va.int', vb.int']; rfl, ?_⟩
      rw [va.int', vb.int', dec_v (f := V.int) (fun _ _ e => V.int.inj e)]
      exact w _ _ _ _ E strf rv_bl
    · refine .inl ⟨by rw [va.bl', vb.bl']; rfl, ?_⟩
      rw [va.bl', vb.bl', dec_v (f := V.bl) (fun _ _ e => V.bl.inj e)]
      exact w _ _ _ _ E strf rv_bl
    · refine .inl ⟨by rw [va.str', vb.str']; rfl, ?_⟩
      rw [va.str', vb.str', dec_v (f := V.str) (fun _ _ e => V.str.inj e)]
      exact w _ _ _ _ E strf rv_bl
    · obtain ⟨p1, p2⟩ := shaped_dp h1 (va.rp E.gh)
      obtain ⟨q1, q2⟩ := shaped_dp h2 (vb.rp E.gh)
      exact .inr ⟨_, _, by rw [hK]; exact p1, by rw [hK]; exact q1, p2, q2, w _ _ _ _ E strf rv_bl⟩
theorem op2_ne (hK : X.K = F.K) (hu : X.A.units + 64 < cLine) : ∃ r, OpR X (compareOp .NotEq) r ∧ Op2 F neD r := by
  refine ⟨_, op_ne.or (op_neD hu), ?_⟩
  intro G H σ ρ O x y a b d Q E va vb e w
  unfold neD at e
  cases e1 : eqB a b with
  | none => rw [e1] at e; cases e
  | some c =>
    rw [e1] at e
    cases e
    rcases eqB_cases e1 with ⟨i, j, rfl, rfl, rfl⟩ | ⟨i, j, rfl, rfl, rfl⟩ | ⟨i, j, rfl, rfl, rfl⟩ | ⟨h1, h2, rfl⟩
    · refine .inl ⟨by rw [va.int', vb.int']; rfl, ?_⟩
      rw [va.int', vb.int', dec_v (f := V.int) (fun _ _ e => V.int.inj e)]
      exact w _ _ _ _ E strf rv_bl
    · refine .inl ⟨by rw [va.bl', vb.bl']; rfl, ?_⟩
      rw [va.bl', vb.bl', dec_v (f := V.bl) (fun _ _ e => V.bl.inj e)]
      exact w _ _ _ _ E strf rv_bl
    · refine .inl ⟨by rw [va.str', vb.str']; rfl, ?_⟩
      rw [va.str', vb.str', dec_v (f := V.str) (fun _ _ e => V.str.inj e)]
      exact w _ _ _ _ E strf rv_bl
    · obtain ⟨p1, p2⟩ := shaped_dp h1 (va.rp E.gh)
      obtain ⟨q1, q2⟩ := shaped_dp h2 (vb.rp E.gh)
      exact .inr ⟨_, _, by rw [hK]; exact p1, by rw [hK]; exact q1, p2, q2, w _ _ _ _ E strf rv_bl⟩
theorem op2_lt : ∃ r, OpR X (compareOp .Lt) r ∧ Op2 F ltD r := by
  refine ⟨_, op_lt.or op_lt_str, ?_⟩
  intro G H σ ρ O x y a b d Q E va vb e w
  unfold ltD at e
  split at e
  · cases e; exact .inl ⟨_, _, va.int', vb.int', w _ _ _ _ E strf rv_bl⟩
  · cases e; exact .inr ⟨_, _, va.str', vb.str', w _ _ _ _ E strf rv_bl⟩
  · cases e
theorem op2_le : ∃ r, OpR X (compareOp .LtE) r ∧ Op2 F leD r := by
  refine ⟨_, op_le.or op_le_str, ?_⟩
  intro G H σ ρ O x y a b d Q E va vb e w
  unfold leD at e
  split at e
  · cases e; exact .inl ⟨_, _, va.int', vb.int', w _ _ _ _ E strf rv_bl⟩
  · cases e; exact .inr ⟨_, _, va.str', vb.str', w _ _ _ _ E strf rv_bl⟩
  · cases e
theorem op2_gt : ∃ r, OpR X (compareOp .Gt) r ∧ Op2 F gtD r := by
  refine ⟨_, op_gt.or op_gt_str, ?_⟩
  intro G H σ ρ O x y a b d Q E va vb e w
  unfold gtD at e
  split at e
  · cases e; exact .inl ⟨_, _, va.int', vb.int', w _ _ _ _ E strf rv_bl⟩
  · cases e; exact .inr ⟨_, _, va.str', vb.str', w _ _ _ _ E strf rv_bl⟩
  · cases e
theorem op2_ge : ∃ r, OpR X (compareOp .GtE) r ∧ Op2 F geD r := by
  refine ⟨_, op_ge.or op_ge_str, ?_⟩
  intro G H σ ρ O x y a b d Q E va vb e w
  unfold geD at e
  split at e
  · cases e; exact .inl ⟨_, _, va.int', vb.int', w _ _ _ _ E strf rv_bl⟩
  · cases e; exact .inr ⟨_, _, va.str', vb.str', w _ _ _ _ E strf rv_bl⟩
  · cases e
theorem vw_non {K : Frg} {G H : Hp} {x : V} {a : D} (h : Vw K G H x a) : decide (x = .non) = isNon a := by
  rcases h with h | ⟨p, o, rfl, _, h⟩
  · cases h <;> simp [isNon]
  · cases h <;> simp [isNon]
theorem op2_is : ∃ r, OpR X (compareOp .Is) r ∧ Op2 F isD r := by
  refine ⟨_, op_isN, ?_⟩
  intro G H σ ρ O x y a b d Q E va vb e w
  unfold isD at e
  split at e
  · cases e
    refine ⟨vb.non', ?_⟩
    rw [vw_non va]
    exact w _ _ _ _ E strf rv_bl
  · cases e
theorem op2_isnt : ∃ r, OpR X (compareOp .IsNot) r ∧ Op2 F isntD r := by
  refine ⟨_, op_notN, ?_⟩
  intro G H σ ρ O x y a b d Q E va vb e w
  unfold isntD at e
  split at e
  · cases e
    refine ⟨vb.non', ?_⟩
    rw [vw_non va]
    exact w _ _ _ _ E strf rv_bl
  · cases e
theorem rp_intall {K : Frg} {H : Hp} (i : Int) : ∀ {xs : List V} {ds : List D}, RpAll K H xs ds → ds.all (fun z => match z with | .int _ => true | _ => false) = true →
    xs.all flatV = true ∧ inV (.int i) xs = ds.any fun z => match z with | .int j => j == i | _ => false
  | _, _, .nil, _ => ⟨rfl, rfl⟩
  | _, _, .cons h t, q => by
    rw [List.all_cons, Bool.and_eq_true] at q
    obtain ⟨a, b⟩ := rp_intall i t q.2
    have q1 := q.1
    cases h <;> simp only [Bool.false_eq_true] at q1
    refine ⟨by rw [List.all_cons, a]; rfl, ?_⟩
    rw [List.any_cons, ← b]
    rfl
theorem rp_strall {K : Frg} {H : Hp} (i : Str) : ∀ {xs : List V} {ds : List D}, RpAll K H xs ds → ds.all (fun z => match z with | .str _ => true | _ => false) = true →
    xs.all flatV = true ∧ inV (.str i) xs = ds.any fun z => match z with | .str j => j == i | _ => false
  | _, _, .nil, _ => ⟨rfl, rfl⟩
  | _, _, .cons h t, q => by
    rw [List.all_cons, Bool.and_eq_true] at q
    obtain ⟨a, b⟩ := rp_strall i t q.2
    have q1 := q.1
    cases h <;> simp only [Bool.false_eq_true] at q1
    refine ⟨by rw [List.all_cons, a]; rfl, ?_⟩
    rw [List.any_cons, ← b]
    rfl
theorem toPys_any (d : D) : ∀ xs : List D, (toPys xs).any (fun z => PyData.eqv z (toPy d)) = xs.any fun z => PyData.eqv (toPy z) (toPy d)
  | [] => rfl
  | x :: r => by simp only [toPys, List.any_cons, toPys_any d r]
/-- the flat and the deep one, both signs -/
def rInA (K : Frg) (neg : Bool) : R2 := fun x y H Q => rIn K neg x y H Q ∨ (if neg then rNotInD K x y H Q else rInD K x y H Q)
theorem inB_ok (hK : X.K = F.K) {neg : Bool} {G H σ ρ O x y a b c} {Q : VK} (E : Er F G H σ ρ O) (va : Vw F.K G H x a) (vb : Vw F.K G H y b) (e : inB a b = some c) (nd : ∀ ks ds, b ≠ .dic ks ds) (w : Wants F G H σ ρ O true (.bl (if neg then !c else c)) Q) : rInA X.K neg x y H Q := by
  unfold inB at e
  split at e
  · split at e
    · rename_i d xs hc
      cases e
      obtain ⟨h1, h2⟩ := Bool.and_eq_true_iff.mp hc
      obtain ⟨p1, p2⟩ := shaped_dp h1 (va.rp E.gh)
      obtain ⟨q1, q2⟩ := shaped_dp h2 (vb.rp E.gh)
      have q1' : L2.Dp F.K H y (.list (toPys xs)) := by simpa [toPy] using q1
      have q2' : SeqAt.shaped (.list (toPys xs)) = true := by simpa [toPy] using q2
      refine .inr ?_
      cases neg with
      | false =>
        refine ⟨_, _, by rw [hK]; exact p1, by rw [hK]; exact q1', p2, q2', ?_⟩
        rw [toPys_any]
        exact w _ _ _ _ E strf rv_bl
      | true =>
        refine ⟨_, _, by rw [hK]; exact p1, by rw [hK]; exact q1', p2, q2', ?_⟩
        rw [toPys_any]
        exact w _ _ _ _ E strf rv_bl
    · cases e
  · split at e
    · rename_i i xs hc
      cases e
      obtain ⟨p, vs, rfl, h1, h2⟩ := vb.tup'
      obtain ⟨f1, f2⟩ := rp_intall i h2 hc
      refine .inl ⟨p, vs, rfl, .inr (by rw [hK]; exact sqT_up E.gh h1), by rw [va.int']; rfl, f1, ?_⟩
      rw [va.int', f2]
      exact w _ _ _ _ E strf rv_bl
    · cases e
  · split at e
    · rename_i i xs hc
      cases e
      obtain ⟨p, vs, rfl, h1, h2⟩ := vb.tup'
      obtain ⟨f1, f2⟩ := rp_strall i h2 hc
      refine .inl ⟨p, vs, rfl, .inr (by rw [hK]; exact sqT_up E.gh h1), by rw [va.str']; rfl, f1, ?_⟩
      rw [va.str', f2]
      exact w _ _ _ _ E strf rv_bl
    · cases e
  · exact absurd rfl (nd _ _)
  · exact absurd rfl (nd _ _)
  · cases e
/-- dicts aside (they have a road of their own) -/
def inB' (a b : D) : Option Bool := match b with
  | .dic _ _ => none
  | _ => inB a b
theorem op2_in (hK : X.K = F.K) (hu : X.A.units + 65 < cLine) : ∃ r, OpR X (compareOp .In) r ∧ Op2 F (fun a b => (inB' a b).map D.bl) r := by
  refine ⟨rInA X.K false, op_in_seq.or (op_inD hu), ?_⟩
  intro G H σ ρ O x y a b d Q E va vb e w
  have e : (inB' a b).map D.bl = some d := e
  cases e0 : inB' a b with
  | none => rw [e0] at e; cases e
  | some c =>
    rw [e0] at e
    cases e
    unfold inB' at e0
    split at e0
    · cases e0
    · rename_i nd
      exact inB_ok hK (neg := false) E va vb e0 nd w
theorem op2_notin (hK : X.K = F.K) (hu : X.A.units + 65 < cLine) : ∃ r, OpR X (compareOp .NotIn) r ∧ Op2 F (fun a b => (inB' a b).map fun c => D.bl (!c)) r := by
  refine ⟨rInA X.K true, op_notIn_seq.or (op_notInD hu), ?_⟩
  intro G H σ ρ O x y a b d Q E va vb e w
  have e : ((inB' a b).map fun c => D.bl (!c)) = some d := e
  cases e0 : inB' a b with
  | none => rw [e0] at e; cases e
  | some c =>
    rw [e0] at e
    cases e
    unfold inB' at e0
    split at e0
    · cases e0
    · rename_i nd
      exact inB_ok hK (neg := true) E va vb e0 nd w
def cmpD : CmpOp → D → D → Option D
  | .Eq => eqD | .NotEq => neD | .Lt => ltD | .LtE => leD | .Gt => gtD | .GtE => geD | .Is => isD | .IsNot => isntD
  | .In => fun a b => (inB' a b).map D.bl
  | .NotIn => fun a b => (inB' a b).map fun c => D.bl (!c)
theorem cmp_ok (hK : X.K = F.K) (hu : X.A.units + 65 < cLine) (op : CmpOp) : ∃ r, OpR X (compareOp op) r ∧ Op2 F (cmpD op) r := by
  have hu' : X.A.units + 64 < cLine := by omega
  cases op
  · exact op2_eq hK hu'
  · exact op2_ne hK hu'
  · exact op2_lt
  · exact op2_le
  · exact op2_gt
  · exact op2_ge
  · exact op2_is
  · exact op2_isnt
  · exact op2_in hK hu
  · exact op2_notin hK hu
end
end Dv
namespace Dv
open PySem L2 PyProof.Rows

/-! ### a def's promise -/
/-- what a call gives back: a list just made, or what stands for good -/
def RvF (K : Frg) (H G' H' : Hp) (v : V) (d : D) : Prop :=
  (∃ p o, v = .ref p ∧ H p = none ∧ H' p = some o ∧ G' p = none ∧ Own K G' p o d) ∨ (isMut d = false ∧ Rp K G' v d)
structure Grow (G H G' H' : Hp) : Prop where
  g : Same G G'
  h : Ext H H'
  gt : NoTb G'
  gh : Same G' H'
  new : ∀ a o, G' a = some o → G a = none → H a = none
def spF (K : Frg) (XR : XRel) (n : Nat) (s : Fn) : Sp := fun vs H Q E => ∃ G ds, Same G H ∧ NoTb G ∧ (∀ P ∈ XR.tabs, TabT H P) ∧ RpAll K G vs ds ∧ ds.length = n ∧ match s ds with
  | .ok d => ∀ v G' H', Grow G H G' H' → RvF K H G' H' v d → Q v H'
  | .exc x => ∀ c dx H', Ext H H' → XR x c dx H' → E c dx H'
  | .bad => False
theorem spF_len {K : Frg} {XR : XRel} {n : Nat} {s : Fn} {vs : List V} {H : Hp} {Q : VK} {E : XK} (h : spF K XR n s vs H Q E) : vs.length = n := by
  obtain ⟨G, ds, _, _, _, r, l, _⟩ := h
  rw [r.length, l]
/-- a def's entry in the table -/
structure FnE where
  name : Str
  ar : Nat
  sem : Fn
def FnIn (P : Program) (w : World) (K : Frg) (mg : Str → Option Value) (base : Heap) (XR : XRel) (k : Nat) (e : FnE) : Prop :=
  ∃ (f : Addr) (fd : FuncData) (ps : List Str), mg e.name = some (.ref f) ∧ PySem.W.keepIn K (.ref f) = true ∧ Binds K fd ps [] ∧ FnOk P w K mg base (L2N.CX P w) k f fd ps (spF K XR e.ar e.sem)
theorem FnIn.mono {P : Program} {w : World} {K : Frg} {mg : Str → Option Value} {base : Heap} {XR : XRel} {j k : Nat} {e : FnE} (h : FnIn P w K mg base XR j e) (hk : j ≤ k) : FnIn P w K mg base XR k e := by
  obtain ⟨f, fd, ps, a, b, c, d⟩ := h
  exact ⟨f, fd, ps, a, b, c, d.mono hk⟩
/-- within an except suite -/
def FnInH (P : Program) (w : World) (K : Frg) (mg : Str → Option Value) (base : Heap) (XR : XRel) (k : Nat) (e : FnE) : Prop :=
  ∃ (f : Addr) (fd : FuncData) (ps : List Str), mg e.name = some (.ref f) ∧ PySem.W.keepIn K (.ref f) = true ∧ Binds K fd ps [] ∧ L2H.FnH P w K mg base (L2N.CX P w) k f fd ps (spF K XR e.ar e.sem)
theorem fnH_mono {P : Program} {w : World} {K : Frg} {mg : Str → Option Value} {base : Heap} {CX : CXT} {j k : Nat} {f : Addr} {fd : FuncData} {ps : List Str} {sp : Sp} (F : L2H.FnH P w K mg base CX j f fd ps sp) (h : j ≤ k) : L2H.FnH P w K mg base CX k f fd ps sp :=
  ⟨F.len, fun A outer s H args us vs Q E p hr => F.run A outer s H args us vs Q E p (hr.mono h)⟩
theorem FnInH.mono {P : Program} {w : World} {K : Frg} {mg : Str → Option Value} {base : Heap} {XR : XRel} {j k : Nat} {e : FnE} (h : FnInH P w K mg base XR j e) (hk : j ≤ k) : FnInH P w K mg base XR k e := by
  obtain ⟨f, fd, ps, a, b, c, d⟩ := h
  exact ⟨f, fd, ps, a, b, c, fnH_mono d hk⟩

/-! ### lending what slots own to a call -/
section
variable {F : Fx} {G H : Hp} {σ : L2.St} {ρ : En} {O : Nat → List Addr}
def Owned (ρ : En) (O : Nat → List Addr) (a : Addr) : Prop := ∃ (i : Nat) (d : D), ρ[i]? = some (Sl.own d) ∧ a ∈ O i
open Classical in
noncomputable def lent (ρ : En) (O : Nat → List Addr) (G H : Hp) : Hp := fun a => if Owned ρ O a then H a else G a
open Classical in
noncomputable def unlent (ρ : En) (O : Nat → List Addr) (G : Hp) : Hp := fun a => if Owned ρ O a then none else G a
theorem lent_at {a : Addr} (h : Owned ρ O a) : lent ρ O G H a = H a := by unfold lent; rw [if_pos h]
theorem lent_ne {a : Addr} (h : ¬ Owned ρ O a) : lent ρ O G H a = G a := by unfold lent; rw [if_neg h]
theorem unlent_at {a : Addr} (h : Owned ρ O a) : unlent ρ O G a = none := by unfold unlent; rw [if_pos h]
theorem unlent_ne {a : Addr} (h : ¬ Owned ρ O a) : unlent ρ O G a = G a := by unfold unlent; rw [if_neg h]
theorem Er.owned (E : Er F G H σ ρ O) {a : Addr} (h : Owned ρ O a) : ∃ i d o, ρ[i]? = some (Sl.own d) ∧ O i = [a] ∧ σ[i]? = some (some (.ref a)) ∧ H a = some o ∧ G a = none ∧ F.H0 a = none ∧ Own F.K G a o d := by
  obtain ⟨i, d, q, m⟩ := h
  obtain ⟨p, o, h1, h2, h3, h4, h5, h6⟩ := E.own i d q
  rw [h2] at m
  have e : a = p := by simpa using m
  subst e
  exact ⟨i, d, o, q, h2, h1, h3, h4, h5, h6⟩
theorem Er.lent1 (E : Er F G H σ ρ O) : Same G (lent ρ O G H) := fun a o e => by
  by_cases h : Owned ρ O a
  · obtain ⟨_, _, _, _, _, _, _, n, _⟩ := E.owned h
    rw [e] at n; cases n
  · rw [lent_ne h]; exact e
theorem Er.lent2 (E : Er F G H σ ρ O) : Same (lent ρ O G H) H := fun a o e => by
  by_cases h : Owned ρ O a
  · rw [lent_at h] at e; exact e
  · rw [lent_ne h] at e; exact E.gh a o e
theorem Er.lentNo (E : Er F G H σ ρ O) : NoTb (lent ρ O G H) := fun a ps e => by
  by_cases h : Owned ρ O a
  · obtain ⟨_, _, o, _, _, _, e2, _, _, w⟩ := E.owned h
    rw [lent_at h, e2] at e
    exact w.noT ps (Option.some.inj e)
  · rw [lent_ne h] at e
    exact E.tab.gt a ps e
theorem Er.lentSlot (E : Er F G H σ ρ O) {i : Nat} {d : D} (h : slD ρ[i]? = some d) : ∃ v, σ[i]? = some (some v) ∧ Rp F.K (lent ρ O G H) v d := by
  rcases slD_cases h with e | e
  · obtain ⟨v, a, b⟩ := E.val i d e
    exact ⟨v, a, b.up E.lent1⟩
  · obtain ⟨p, o, h1, h2, h3, h4, h5, h6⟩ := E.own i d e
    refine ⟨_, h1, (h6.up E.lent1).rp ?_⟩
    rw [lent_at ⟨i, d, e, by rw [h2]; simp⟩]
    exact h3
theorem Avs.lent (E : Er F G H σ ρ O) : ∀ {os vs ds}, Avs F.K G σ ρ os vs ds → RpAll F.K (lent ρ O G H) vs ds
  | _, _, _, .nil => .nil
  | _, _, _, .ex a t => .cons (a.up E.lent1) (Avs.lent E t)
  | _, _, _, .va a b t => by
    obtain ⟨v, h1, h2⟩ := E.lentSlot b
    rw [a] at h1
    cases h1
    exact .cons h2 (Avs.lent E t)
/-- behind the call, the lists are the slots' own again -/
theorem Er.back (E : Er F G H σ ρ O) {G2 H2 : Hp} (g : Grow (lent ρ O G H) H G2 H2) : Er F (unlent ρ O G2) H2 σ ρ O where
  len := E.len
  g0 := fun a o e => by
    have e1 := E.g0 a o e
    have nh : ¬ Owned ρ O a := fun h => by
      obtain ⟨_, _, _, _, _, _, _, n, _⟩ := E.owned h
      rw [e1] at n; cases n
    rw [unlent_ne nh]
    exact g.g a o (E.lent1 a o e1)
  h0 := E.h0.trans g.h
  tab := ⟨fun a ps e => by
    by_cases h : Owned ρ O a
    · rw [unlent_at h] at e; cases e
    · rw [unlent_ne h] at e; exact g.gt a ps e, E.tab.bt, fun P hP => (E.tab.tb P hP).ext g.h⟩
  gh := fun a o e => by
    by_cases h : Owned ρ O a
    · rw [unlent_at h] at e; cases e
    · rw [unlent_ne h] at e; exact g.gh a o e
  new := fun a o e n => by
    by_cases h : Owned ρ O a
    · rw [unlent_at h] at e; cases e
    · rw [unlent_ne h] at e
      cases q : lent ρ O G H a with
      | none => exact E.h0none (g.new a o e q)
      | some o' =>
        rw [lent_ne h] at q
        exact E.new a o' q n
  val := fun i d q => by
    obtain ⟨v, a, b⟩ := E.val i d q
    refine ⟨v, a, b.up fun a o e => ?_⟩
    have nh : ¬ Owned ρ O a := fun h => by
      obtain ⟨_, _, _, _, _, _, _, n, _⟩ := E.owned h
      rw [e] at n; cases n
    rw [unlent_ne nh]
    exact g.g a o (E.lent1 a o e)
  own := fun i d q => by
    obtain ⟨p, o, h1, h2, h3, h4, h5, h6⟩ := E.own i d q
    refine ⟨p, o, h1, h2, g.h.obj _ _ h3 h6.noT, unlent_at ⟨i, d, q, by rw [h2]; simp⟩, h5, h6.up fun a o e => ?_⟩
    have nh : ¬ Owned ρ O a := fun h => by
      obtain ⟨_, _, _, _, _, _, _, n, _⟩ := E.owned h
      rw [e] at n; cases n
    rw [unlent_ne nh]
    exact g.g a o (E.lent1 a o e)
  dis := E.dis
  held := fun a o e => by
    obtain ⟨h1, h2, h3⟩ := E.held a o e
    have nh : ¬ Owned ρ O a := fun ⟨i, d, q, m⟩ => h3 i d q m
    refine ⟨g.h.obj _ _ h1 (E.tab.bt.no e), ?_, h3⟩
    rw [unlent_ne nh]
    cases z : G2 a with
    | none => rfl
    | some o' =>
      have := g.new a o' z (by rw [lent_ne nh]; exact h2)
      rw [h1] at this
      cases this
theorem Er.backG (E : Er F G H σ ρ O) {G2 H2 : Hp} (g : Grow (lent ρ O G H) H G2 H2) : Same G (unlent ρ O G2) := fun a o e => by
  have nh : ¬ Owned ρ O a := fun h => by
    obtain ⟨_, _, _, _, _, _, _, n, _⟩ := E.owned h
    rw [e] at n; cases n
  rw [unlent_ne nh]
  exact g.g a o (E.lent1 a o e)
/-- data without lists does not care -/
theorem rp_pure {K : Frg} {G G2 : Hp} (ht : ∀ {a xs}, SqT K G2 a xs → SqT K G a xs) : (∀ v d, Rp K G2 v d → pure? d = true → Rp K G v d) ∧ (∀ vs ds, RpAll K G2 vs ds → pureAll? ds = true → RpAll K G vs ds) := by
  refine ⟨fun v d h => ?_, fun vs ds h => ?_⟩
  · refine Rp.rec (motive_1 := fun v d _ => pure? d = true → Rp K G v d) (motive_2 := fun vs ds _ => pureAll? ds = true → RpAll K G vs ds) (fun _ => .non) (fun b _ => .bl b) (fun i _ => .int i) (fun x _ => .str x) (fun _ _ _ p => ?_) (fun a _ ih p => .tup (ht a) (ih (by simpa [pure?] using p))) (fun _ _ _ _ p => ?_) (fun _ p => ?_) (fun _ => .nil) (fun _ _ a b p => ?_) h
    · simp [pure?] at p
    · simp [pure?] at p
    · simp [pure?] at p
    · have p' := Bool.and_eq_true_iff.mp (show (pure? _ && pureAll? _) = true by simpa [pureAll?] using p)
      exact .cons (a p'.1) (b p'.2)
  · refine RpAll.rec (motive_1 := fun v d _ => pure? d = true → Rp K G v d) (motive_2 := fun vs ds _ => pureAll? ds = true → RpAll K G vs ds) (fun _ => .non) (fun b _ => .bl b) (fun i _ => .int i) (fun x _ => .str x) (fun _ _ _ p => ?_) (fun a _ ih p => .tup (ht a) (ih (by simpa [pure?] using p))) (fun _ _ _ _ p => ?_) (fun _ p => ?_) (fun _ => .nil) (fun _ _ a b p => ?_) h
    · simp [pure?] at p
    · simp [pure?] at p
    · simp [pure?] at p
    · have p' := Bool.and_eq_true_iff.mp (show (pure? _ && pureAll? _) = true by simpa [pureAll?] using p)
      exact .cons (a p'.1) (b p'.2)
end
end Dv
namespace Dv
open PySem L2 PyProof.Rows

/-- what a def's text is read with: the defs it may call, the module's constants, the names that are built-in ones -/
structure Tab where
  fns : List FnE
  cons : List (Str × D)
  free : List Str
  /-- the defs that may be called in an except suite; whether this is one -/
  hfns : List FnE := []
  hot : Bool := false
  /-- the own errors that may be raised -/
  excs : List Str := []
def Tab.heat (T : Tab) : Tab := { T with fns := T.hfns, hot := true }
/-- an own error as a value -/
def ExcR (mg : Str → Option Value) (es : List Str) (x : Exn) (c : Value) (dx : Option Addr) (H : Hp) : Prop :=
  x.cls ∈ es ∧ ∃ (C d : Addr) (y : Str), mg x.cls = some (.ref C) ∧ c = .ref C ∧ dx = some d ∧ H d = some (.xd [(("thing" : Str), .str y)]) ∧ x.fs = [(("thing" : Str), D.str y)]
/-- what is known of the errors -/
structure ExcOk (P : Program) (K : Frg) (mg : Str → Option Value) (es : List Str) : Prop where
  txt : ∀ x ∈ es, ∃ C fI, PySem.DamX.Txt K mg P x C fI
  exm : ∀ x ∈ es, ∀ y ∈ es, ∀ C C', mg x = some (.ref C) → mg y = some (.ref C') → PySem.W.exmOne K (.ref C) (.ref C') = some (decide (x = y))
structure Xo (F : Fx) (T : Tab) (N : List Str) (sc : Scope) (k : Nat) (X : Cx) : Prop where
  hK : X.K = F.K
  hN : X.N = N
  hs : X.env.scope = sc
  nd : N.Nodup
  calm : T.hot = false → X.calm = true
  room : L2H.RoomH k X.A
  cold : T.hot = false → X.A.handled = none
  fns : ∀ e ∈ T.fns, (T.hot = false → FnIn X.prog X.w X.K X.mg X.base F.XR k e) ∧ (T.hot = true → L2H.HotC X ∧ FnInH X.prog X.w X.K X.mg X.base F.XR k e)
  hfns : T.hot = false → ∀ e ∈ T.hfns, FnInH X.prog X.w X.K X.mg X.base F.XR k e
  exc : ExcOk X.prog X.K X.mg T.excs
  xr : F.XR.rel = ExcR X.mg T.excs
  cons : ∀ q ∈ T.cons, ∃ u v, X.mg q.1 = some u ∧ RelV v u ∧ ∀ H, Rp X.K H v q.2
  free : ∀ x ∈ T.free, X.mg x = none
  pass : ∀ σ, PassesAt (L2N.CX X.prog X.w) X σ (WE F.W σ)
  code : ∃ c P, X.env.code = .ref c ∧ GxR.TabB X.base X.mg c P ∧ P ∈ F.XR.tabs
theorem Xo.rm {F : Fx} {T : Tab} {N : List Str} {sc : Scope} {k : Nat} {X : Cx} (o : Xo F T N sc k X) (h : T.hot = false) : Room k X.A := ⟨o.cold h, o.room.dp, o.room.un⟩
theorem Xo.hu {F : Fx} {T : Tab} {N : List Str} {sc : Scope} {k : Nat} {X : Cx} (o : Xo F T N sc k X) : X.A.units + 65 < cLine := by
  have := o.room.un
  omega

/-! ### names, constants -/
def varM (i : Nat) : M D := fun ρ => match ρ[i]? with
  | some (.val d) => .ok d ρ
  | some (.own d) => .ok d (ρ.set i (.val d))
  | _ => .bad
def retM (d : D) : M D := fun ρ => .ok d ρ
section
variable {F : Fx} {T : Tab} {N : List Str} {sc : Scope} {k : Nat} {X : Cx} {e a b : Expr} {pos : Pos}
theorem e_var {i : Nat} (h : PE X e (tVar i)) : PE X e (rdE F (varM i) false) := by
  refine peI h fun σ H Q ⟨G, ρ, O, E, q⟩ => ?_
  unfold varM at q
  split at q
  · rename_i d ρ' h2
    split at h2
    · rename_i d' hd
      cases h2
      obtain ⟨v, hv, r⟩ := E.val i _ hd
      exact ⟨v, hv, q v G H O E strf (.inr ⟨(fun e => nomatch e), r⟩)⟩
    · rename_i d' hd
      cases h2
      obtain ⟨G', v, s, hv, r, E'⟩ := E.give hd
      exact ⟨v, hv, q v G' H O E' (stp_give s) (.inr ⟨(fun e => nomatch e), r⟩)⟩
    · cases h2
  · rename_i x ρ' h2
    split at h2 <;> cases h2
  · exact q.elim
theorem e_const {v : V} {d : D} (h : PE X e (tC v)) (r : ∀ H, Rp F.K H v d) : PE X e (rdE F (retM d) false) :=
  peI h fun σ H Q ⟨G, ρ, O, E, q⟩ => q v G H O E strf (.inr ⟨(fun e => nomatch e), r G⟩)
theorem rdE_weak {m : M D} {fr : Bool} (h : PE X e (rdE F m fr)) : PE X e (rdE F m false) := by
  refine peI h fun σ H Q ⟨G, ρ, O, E, q⟩ => rdE_hold ⟨G, ρ, O, E, ?_⟩
  cases e1 : m ρ with
  | bad => rw [e1] at q; exact q
  | exc x ρ1 => rw [e1] at q; exact q
  | ok d ρ1 =>
    rw [e1] at q
    exact fun v G' H' O' E' s r => q v G' H' O' E' s (.inr ⟨(fun e => nomatch e), r⟩)

/-! ### operations on operands -/
def opM (f : List D → Option D) (os : List Opd) : M D := fun ρ => (evO os ρ).bind fun ds ρ' => match f ds with
  | some d => .ok d ρ'
  | none => .bad
def f2 (f : D → D → Option D) : List D → Option D
  | [a, b] => f a b
  | _ => none
def f1 (f : D → Option D) : List D → Option D
  | [a] => f a
  | _ => none
/-- what a call of a built-in does, by data -/
def OpNg (F : Fx) (f : List D → Option D) (fr : Bool) (r : List V → Hp → VK → Prop) : Prop := ∀ G H σ ρ O xs ds d (Q : VK), Er F G H σ ρ O → VwAll F.K G H xs ds → f ds = some d → Wants F G H σ ρ O fr d Q → r xs H Q
abbrev OpN (F : Fx) (f : List D → Option D) (r : List V → Hp → VK → Prop) : Prop := OpNg F f true r
theorem opN_rd {es : List Expr} {os : List Opd} {ts : List TE} {f : List D → Option D} {fr : Bool} {r : List V → Hp → VK → Prop} (h : Ops F X es os ts) (hr : OpNg F f fr r) {σ : L2.St} {H : Hp} {Q : VK} (q : rdE F (opM f os) fr σ H Q) : tList ts σ H fun vs H' => r vs H' Q := by
  obtain ⟨G, ρ, O, E, q⟩ := q
  refine h.run σ H _ ⟨G, ρ, O, E, ?_⟩
  unfold opM at q
  cases e1 : evO os ρ with
  | bad => rw [e1] at q; exact q
  | exc x ρ1 => rw [e1] at q; exact q
  | ok ds ρ1 =>
    rw [e1] at q
    intro vs G1 H1 O1 E1 s1 a1
    simp only [R.bind_ok] at q
    cases e2 : f ds with
    | none => rw [e2] at q; exact q.elim
    | some d =>
      rw [e2] at q
      exact hr G1 H1 σ ρ1 O1 vs ds d Q E1 (a1.vw E1) e2 fun v G' H' O' E' s r => q v G' H' O' E' (s1.trans s) r
theorem op2_opN {f : D → D → Option D} {fr : Bool} {r : R2} (h : Op2g F f fr r) : OpNg F (f2 f) fr (fun xs H Q => match xs with | [x, y] => r x y H Q | _ => False) := by
  intro G H σ ρ O xs ds d Q E va e w
  cases va with
  | nil => cases e
  | cons v1 t =>
    cases t with
    | nil => cases e
    | cons v2 t =>
      cases t with
      | nil => exact h G H σ ρ O _ _ _ _ d Q E v1 v2 e w
      | cons _ _ => cases e
theorem op2_rd {oa ob : Opd} {ta tb : TE} {f : D → D → Option D} {fr : Bool} {r : R2} (ha : Op1 F X a oa ta) (hb : Op1 F X b ob tb) (hr : Op2g F f fr r) {σ : L2.St} {H : Hp} {Q : VK} (q : rdE F (opM (f2 f) [oa, ob]) fr σ H Q) : tOp r ta tb σ H Q :=
  opN_rd (.cons ha (.cons hb .nil)) (op2_opN hr) q
theorem e_bin {op : Operator} {f : D → D → Option D} {oa ob : Opd} {ta tb : TE} (hK : X.K = F.K) (ho : op2D op = some f) (ha : Op1 F X a oa ta) (hb : Op1 F X b ob tb) : PE X (.BinOp a op b pos) (rdE F (opM (f2 f) [oa, ob]) true) := by
  obtain ⟨r, h1, h2⟩ := op2_ok (X := X) hK ho
  exact peI (pe_op h1 ha.pe hb.pe) fun σ H Q q => op2_rd ha hb h2 q
theorem behind_ok {op : CmpOp} {b : Expr} (h : plainE b = true) : behindInMarks op b = false := by
  cases b <;> first | rfl | cases h
theorem e_cmp {op : CmpOp} {oa ob : Opd} {ta tb : TE} (hK : X.K = F.K) (hu : X.A.units + 65 < cLine) (ha : Op1 F X a oa ta) (hb : Op1 F X b ob tb) (pb : plainE b = true) : PE X (.Compare a [op] [b] pos) (rdE F (opM (f2 (cmpD op)) [oa, ob]) true) := by
  obtain ⟨r, h1, h2⟩ := cmp_ok (X := X) hK hu op
  exact peI (pe_cmpR h1 ha.pe hb.pe (behind_ok pb)) fun σ H Q q => op2_rd ha hb h2 q
/-- a value that is a bool, as a test -/
def boolM (m : M D) : M Bool := fun ρ => (m ρ).bind fun d ρ' => match d with
  | .bl b => .ok b ρ'
  | _ => .bad
theorem boolM_rd {m : M D} {fr : Bool} {t : TE} (h : ∀ σ H Q, rdE F m fr σ H Q → t σ H Q) {σ : L2.St} {H : Hp} {Q : Bool → Hp → Prop} (q : rdT F (boolM m) σ H Q) : tTest t σ H Q := by
  obtain ⟨G, ρ, O, E, q⟩ := q
  refine h σ H _ ⟨G, ρ, O, E, ?_⟩
  unfold boolM at q
  cases e1 : m ρ with
  | bad => rw [e1] at q; exact q
  | exc x ρ1 => rw [e1] at q; exact q
  | ok d ρ1 =>
    rw [e1] at q
    intro v G1 H1 O1 E1 s1 r1
    simp only [R.bind_ok] at q
    cases d with
    | bl b =>
      rcases r1 with ⟨p, o, _, _, _, _, _, _, _, h5⟩ | ⟨_, r1⟩
      · cases h5
      · cases r1
        exact ⟨b, rfl, q G1 H1 O1 E1 s1⟩
    | _ => exact q.elim
theorem t_cmp {op : CmpOp} {oa ob : Opd} {ta tb : TE} (hK : X.K = F.K) (hu : X.A.units + 65 < cLine) (ha : Op1 F X a oa ta) (hb : Op1 F X b ob tb) (pb : plainE b = true) : PT X (.Compare a [op] [b] pos) (rdT F (boolM (opM (f2 (cmpD op)) [oa, ob]))) := by
  obtain ⟨r, h1, h2⟩ := cmp_ok (X := X) hK hu op
  exact ptI (pt_cmpR h1 ha.pe hb.pe (behind_ok pb)) fun σ H Q q => boolM_rd (fun σ H Q q => op2_rd ha hb h2 q) q

/-! ### two comparisons in a row -/
def chainM (f g : D → D → Option D) (oa ob oc : Opd) : M D := fun ρ => (evO [oa, ob] ρ).bind fun ds ρ1 => match ds with
  | [a, b] => (match f a b with
    | some (.bl true) => if isMut b then .bad else (evO [oc] ρ1).bind fun es ρ2 => (match es with
      | [c] => (match g b c with
        | some d => .ok d ρ2
        | none => .bad)
      | _ => .bad)
    | some (.bl false) => .ok (.bl false) ρ1
    | _ => .bad)
  | _ => .bad
theorem vw_mono {K : Frg} {G G' H H' : Hp} {v : V} {d : D} (h : Vw K G H v d) (m : isMut d = false) (s : Same G G') : Vw K G' H' v d := by
  rcases h with h | ⟨p, o, rfl, _, h⟩
  · exact .inl (h.up s)
  · rw [h.mut] at m; cases m
theorem chain_rd {c : Expr} {f g : D → D → Option D} {r r' : R2} {oa ob oc : Opd} {ta tb tc : TE} (ha : Op1 F X a oa ta) (hb : Op1 F X b ob tb) (hc : Op1 F X c oc tc) (hr : Op2 F f r) (hr' : Op2 F g r') {σ : L2.St} {H : Hp} {Q : VK} (q : rdE F (chainM f g oa ob oc) true σ H Q) : tChain r r' ta tb tc σ H Q := by
  obtain ⟨G, ρ, O, E, q⟩ := q
  show tList [ta, tb] σ H (fun vs H2 => match vs with | [x, y] => r x y H2 (fun z H3 => ∃ k, z = .bl k ∧ if k = true then tc σ H3 fun w' H4 => r' y w' H4 Q else Q (.bl false) H3) | _ => False)
  refine (Ops.cons ha (.cons hb .nil)).run σ H _ ⟨G, ρ, O, E, ?_⟩
  unfold chainM at q
  cases e1 : evO [oa, ob] ρ with
  | bad => rw [e1] at q; exact q
  | exc x ρ1 => rw [e1] at q; exact q
  | ok ds ρ1 =>
    rw [e1] at q
    intro vs G1 H1 O1 E1 s1 a1
    simp only [R.bind_ok] at q
    have va := a1.vw E1
    cases va with
    | nil => exact q.elim
    | cons v1 t =>
      cases t with
      | nil => exact q.elim
      | cons v2 t =>
        cases t with
        | cons _ _ => exact q.elim
        | nil =>
          rename_i x d1 y d2
          simp only at q
          cases e2 : f d1 d2 with
          | none => rw [e2] at q; exact q.elim
          | some z =>
            rw [e2] at q
            refine hr G1 H1 σ ρ1 O1 x y d1 d2 z _ E1 v1 v2 e2 fun v G2 H2 O2 E2 s2 r2 => ?_
            cases z with
            | bl k =>
              have ev : v = .bl k := by
                rcases r2 with ⟨p, o, _, _, _, _, _, _, _, h5⟩ | ⟨_, r2⟩
                · cases h5
                · cases r2; rfl
              subst ev
              refine ⟨k, rfl, ?_⟩
              cases k with
              | false => exact q _ _ _ _ E2 (s1.trans s2) (rv_bl)
              | true =>
                simp only at q
                cases em : isMut d2 with
                | true => rw [em] at q; exact q.elim
                | false =>
                  rw [em] at q
                  simp only [Bool.false_eq_true, if_false] at q
                  show tList [tc] σ H2 (fun vs H4 => match vs with | [w'] => r' y w' H4 Q | _ => False)
                  refine (Ops.cons hc .nil).run σ H2 _ ⟨G2, ρ1, O2, E2, ?_⟩
                  cases e3 : evO [oc] ρ1 with
                  | bad => rw [e3] at q; exact q
                  | exc x ρ1 => rw [e3] at q; exact Xc.up q (s1.trans s2).g
                  | ok es ρ2 =>
                    rw [e3] at q
                    intro ws G3 H3 O3 E3 s3 a3
                    simp only [R.bind_ok] at q
                    have vc := a3.vw E3
                    cases vc with
                    | nil => exact q.elim
                    | cons w1 t =>
                      cases t with
                      | cons _ _ => exact q.elim
                      | nil =>
                        rename_i w' d3
                        simp only at q
                        cases e4 : g d2 d3 with
                        | none => rw [e4] at q; exact q.elim
                        | some u =>
                          rw [e4] at q
                          exact hr' G3 H3 σ ρ2 O3 y w' d2 d3 u Q E3 (vw_mono v2 em (s2.trans s3).g) w1 e4 fun v G4 H4 O4 E4 s4 r4 => q v G4 H4 O4 E4 ((s1.trans s2).trans (s3.trans s4)) r4
            | _ => exact q.elim
theorem e_chain {c : Expr} {op op' : CmpOp} {oa ob oc : Opd} {ta tb tc : TE} (hK : X.K = F.K) (hu : X.A.units + 65 < cLine) (ha : Op1 F X a oa ta) (hb : Op1 F X b ob tb) (hc : Op1 F X c oc tc) (pb : plainE b = true) (pc : plainE c = true) :
    PE X (.Compare a [op, op'] [b, c] pos) (rdE F (chainM (cmpD op) (cmpD op') oa ob oc) true) := by
  obtain ⟨r, h1, h2⟩ := cmp_ok (X := X) hK hu op
  obtain ⟨r', h3, h4⟩ := cmp_ok (X := X) hK hu op'
  exact peI (pe_chain h1 h3 ha.pe hb.pe hc.pe (behind_ok pc)) fun σ H Q q => chain_rd ha hb hc h2 h4 q
theorem t_chain {c : Expr} {op op' : CmpOp} {oa ob oc : Opd} {ta tb tc : TE} (hK : X.K = F.K) (hu : X.A.units + 65 < cLine) (ha : Op1 F X a oa ta) (hb : Op1 F X b ob tb) (hc : Op1 F X c oc tc) (pb : plainE b = true) (pc : plainE c = true) :
    PT X (.Compare a [op, op'] [b, c] pos) (rdT F (boolM (chainM (cmpD op) (cmpD op') oa ob oc))) := by
  obtain ⟨r, h1, h2⟩ := cmp_ok (X := X) hK hu op
  obtain ⟨r', h3, h4⟩ := cmp_ok (X := X) hK hu op'
  exact ptI (pt_chain h1 h3 ha.pe hb.pe hc.pe (behind_ok pc)) fun σ H Q q => boolM_rd (fun σ H Q q => chain_rd ha hb hc h2 h4 q) q
end
end Dv
namespace Dv
open PySem L2 PyProof.Rows
section
variable {F : Fx} {T : Tab} {N : List Str} {sc : Scope} {k : Nat} {X : Cx} {e a b : Expr} {pos : Pos}
/-! ### truth -/
def truD : D → Option Bool
  | .non => some false
  | .bl b => some b
  | .int i => some (i != 0)
  | .str s => if s.length ≤ sizeLine then some ((s.length : Int) != 0) else none
  | .tup xs => some (!xs.isEmpty)
  | .lst xs => some (!xs.isEmpty)
  | .scr ns => some (!ns.isEmpty)
  | .dic _ _ => none
theorem rp_empty {K : Frg} {G : Hp} {xs : List V} {ds : List D} (h : RpAll K G xs ds) : xs.isEmpty = ds.isEmpty := by
  cases h <;> rfl
theorem tru_vw {K : Frg} {G H : Hp} {v : V} {d : D} {b : Bool} (s : Same G H) (h : Vw K G H v d) (e : truD d = some b) : TruV K v H b := by
  unfold truD at e
  split at e
  · cases e; rw [h.non']; rfl
  · cases e; rw [h.bl']; rfl
  · cases e; rw [h.int']; rfl
  · split at e
    · rename_i hz
      cases e
      rw [h.str']
      exact ⟨hz, rfl⟩
    · cases e
  · cases e
    obtain ⟨p, xs, rfl, h1, h2⟩ := h.tup'
    exact .inr (.inl ⟨xs, sqT_up s h1, by rw [rp_empty h2]⟩)
  · cases e
    obtain ⟨p, xs, rfl, h1, h2⟩ := h.lst' s
    exact .inl ⟨xs, .inl (.inl h1), by rw [rp_empty h2]⟩
  · cases e
    obtain ⟨p, rfl, h1⟩ := h.scr'
    refine .inl ⟨_, s.seq h1, ?_⟩
    rename_i ns
    cases ns <;> rfl
  · cases e
def truM (o : Opd) : M Bool := fun ρ => (evO [o] ρ).bind fun ds ρ' => match ds with
  | [d] => (match truD d with
    | some b => .ok b ρ'
    | none => .bad)
  | _ => .bad
theorem tru_rd {o : Opd} {t : TE} (h : Op1 F X e o t) {σ : L2.St} {H : Hp} {Q : Bool → Hp → Prop} (q : rdT F (truM o) σ H Q) : t σ H fun x H1 => ∃ c, TruV F.K x H1 c ∧ Q c H1 := by
  obtain ⟨G, ρ, O, E, q⟩ := q
  show tList [t] σ H (fun vs H1 => match vs with | [x] => ∃ c, TruV F.K x H1 c ∧ Q c H1 | _ => False)
  refine (Ops.cons h .nil).run σ H _ ⟨G, ρ, O, E, ?_⟩
  unfold truM at q
  cases e1 : evO [o] ρ with
  | bad => rw [e1] at q; exact q
  | exc x ρ1 => rw [e1] at q; exact q
  | ok ds ρ1 =>
    rw [e1] at q
    intro vs G1 H1 O1 E1 s1 a1
    simp only [Dv.R.bind_ok] at q
    have va := a1.vw E1
    cases va with
    | nil => exact q.elim
    | cons v1 t =>
      cases t with
      | cons _ _ => exact q.elim
      | nil =>
        rename_i x d
        simp only at q
        cases e2 : truD d with
        | none => rw [e2] at q; exact q.elim
        | some b =>
          rw [e2] at q
          exact ⟨b, tru_vw E1.gh v1 e2, q G1 H1 O1 E1 s1⟩
def truthKind : Expr → Bool
  | .UnaryOp .Not _ _ => false
  | .BoolOp _ _ _ => false
  | .IfExp _ _ _ _ => false
  | .Compare _ _ _ _ => false
  | _ => true
theorem t_tru {o : Opd} {t : TE} (hK : X.K = F.K) (h : Op1 F X e o t) (hk : truthKind e = true) : PT X e (rdT F (truM o)) := by
  refine ptI (pt_truth h.pe ?_) fun σ H Q q => ?_
  · intro whole
    cases e <;> first | rfl | (simp only [truthKind, Bool.false_eq_true] at hk) | skip
    rename_i op x p
    cases op <;> first | rfl | (simp only [truthKind, Bool.false_eq_true] at hk)
  · rw [hK]
    exact tru_rd h q
def notM (m : M Bool) : M Bool := fun ρ => (m ρ).bind fun b ρ' => .ok (!b) ρ'
def andM (m n : M Bool) : M Bool := fun ρ => (m ρ).bind fun b ρ' => if b = true then n ρ' else .ok false ρ'
def orM (m n : M Bool) : M Bool := fun ρ => (m ρ).bind fun b ρ' => if b = true then .ok true ρ' else n ρ'
theorem rdT_bind {m : M Bool} {f : Bool → M Bool} {σ : L2.St} {H : Hp} {Q R : Bool → Hp → Prop} (q : rdT F (fun ρ => (m ρ).bind f) σ H Q) (h : ∀ b H', rdT F (f b) σ H' Q → R b H') : rdT F m σ H R := by
  obtain ⟨G, ρ, O, E, q⟩ := q
  dsimp only at q
  refine ⟨G, ρ, O, E, ?_⟩
  cases e1 : m ρ with
  | bad => rw [e1] at q; exact q
  | exc x ρ1 => rw [e1] at q; exact q
  | ok b ρ1 =>
    rw [e1] at q
    intro G1 H1 O1 E1 s1
    refine h b H1 ⟨G1, ρ1, O1, E1, ?_⟩
    simp only [Dv.R.bind_ok] at q
    cases e2 : f b ρ1 with
    | bad => rw [e2] at q; exact q
    | exc x ρ2 => rw [e2] at q; exact Xc.up q s1.g
    | ok c ρ2 =>
      rw [e2] at q
      exact fun G2 H2 O2 E2 s2 => q G2 H2 O2 E2 (s1.trans s2)
theorem rdT_ok {b : Bool} {σ : L2.St} {H : Hp} {Q : Bool → Hp → Prop} (q : rdT F (fun ρ => .ok b ρ) σ H Q) : Q b H := by
  obtain ⟨G, ρ, O, E, q⟩ := q
  exact q G H O E strf
theorem t_not {m : M Bool} (h : PT X a (rdT F m)) : PT X (.UnaryOp .Not a pos) (rdT F (notM m)) :=
  ptI (pt_not h) fun σ H Q q => rdT_bind (f := fun b ρ' => .ok (!b) ρ') q fun b H' q' => rdT_ok q'
theorem w_and1 {m : M Bool} (h : PT X a (rdT F m)) : PW X (.BoolOp .And [a] pos) (rdT F m) := pw_and1 h
theorem w_or1 {m : M Bool} (h : PT X a (rdT F m)) : PW X (.BoolOp .Or [a] pos) (rdT F m) := pw_or1 h
theorem pwI {t t' : TT} (h : PW X e t) (i : ∀ σ H Q, t' σ H Q → t σ H Q) : PW X e t' := ⟨fun wh pins s σ H Q I q => h.run wh pins s σ H Q I (i _ _ _ q)⟩
theorem w_and {rest : List Expr} {m n : M Bool} (h : PT X a (rdT F m)) (h2 : PW X (.BoolOp .And (b :: rest) pos) (rdT F n)) : PW X (.BoolOp .And (a :: b :: rest) pos) (rdT F (andM m n)) :=
  pwI (pw_and h h2) fun σ H Q q => rdT_bind (f := fun b ρ' => if b = true then n ρ' else .ok false ρ') q fun c H' q' => by
    cases c with
    | true => exact q'
    | false => exact rdT_ok q'
theorem w_or {rest : List Expr} {m n : M Bool} (h : PT X a (rdT F m)) (h2 : PW X (.BoolOp .Or (b :: rest) pos) (rdT F n)) : PW X (.BoolOp .Or (a :: b :: rest) pos) (rdT F (orM m n)) :=
  pwI (pw_or h h2) fun σ H Q q => rdT_bind (f := fun b ρ' => if b = true then .ok true ρ' else n ρ') q fun c H' q' => by
    cases c with
    | true => exact rdT_ok q'
    | false => exact q'
/-! ### and, or, not, if as values -/
def iteM (c : M Bool) (m n : M D) : M D := fun ρ => (c ρ).bind fun b ρ' => if b = true then m ρ' else n ρ'
theorem rdTE_bind {c : M Bool} {f : Bool → M D} {fr : Bool} {σ : L2.St} {H : Hp} {Q : VK} {R : Bool → Hp → Prop} (q : rdE F (fun ρ => (c ρ).bind f) fr σ H Q) (h : ∀ b H', rdE F (f b) fr σ H' Q → R b H') : rdT F c σ H R := by
  obtain ⟨G, ρ, O, E, q⟩ := q
  dsimp only at q
  refine ⟨G, ρ, O, E, ?_⟩
  cases e1 : c ρ with
  | bad => rw [e1] at q; exact q
  | exc x ρ1 => rw [e1] at q; exact q
  | ok b ρ1 =>
    rw [e1] at q
    intro G1 H1 O1 E1 s1
    refine h b H1 ⟨G1, ρ1, O1, E1, ?_⟩
    simp only [Dv.R.bind_ok] at q
    cases e2 : f b ρ1 with
    | bad => rw [e2] at q; exact q
    | exc x ρ2 => rw [e2] at q; exact Xc.up q s1.g
    | ok d ρ2 =>
      rw [e2] at q
      exact fun v G2 H2 O2 E2 s2 r2 => q v G2 H2 O2 E2 (s1.trans s2) r2
theorem e_ite {c : Expr} {m n : M D} {fr : Bool} {t : M Bool} (hc : PT X c (rdT F t)) (ha : PE X a (rdE F m fr)) (hb : PE X b (rdE F n fr)) : PE X (.IfExp c a b pos) (rdE F (iteM t m n) fr) :=
  peI (pe_ifExp hc ha hb) fun σ H Q q => rdTE_bind (f := fun b ρ' => if b = true then m ρ' else n ρ') q fun b H' q' => by
    cases b with
    | true => exact q'
    | false => exact q'
def tvM (m : M Bool) : M D := fun ρ => (m ρ).bind fun b ρ' => .ok (.bl b) ρ'
/-- not x -/
theorem e_not {o : Opd} {t : TE} (hK : X.K = F.K) (h : Op1 F X a o t) : PE X (.UnaryOp .Not a pos) (rdE F (tvM (notM (truM o))) true) := by
  refine peI (pe_notT h.pe) fun σ H Q q => ?_
  rw [hK]
  have q1 : rdT F (truM o) σ H fun c H1 => Q (.bl (!c)) H1 := by
    obtain ⟨G, ρ, O, E, q⟩ := q
    refine ⟨G, ρ, O, E, ?_⟩
    unfold tvM notM at q
    cases e1 : truM o ρ with
    | bad => rw [e1] at q; exact q
    | exc x ρ1 => rw [e1] at q; exact q
    | ok b ρ1 =>
      rw [e1] at q
      exact fun G1 H1 O1 E1 s1 => q _ G1 H1 O1 E1 s1 rv_bl
  exact tru_rd h q1
/-- x and y, x or y as values -/
def andV (m n : M D) : M D := fun ρ => (m ρ).bind fun d ρ' => match truD d with
  | some true => n ρ'
  | some false => .ok d ρ'
  | none => .bad
def orV (m n : M D) : M D := fun ρ => (m ρ).bind fun d ρ' => match truD d with
  | some true => .ok d ρ'
  | some false => n ρ'
  | none => .bad
theorem rdE_bind {m : M D} {f : D → M D} {fr fr' : Bool} {σ : L2.St} {H : Hp} {Q : VK} {R : VK} (q : rdE F (fun ρ => (m ρ).bind f) fr σ H Q) (h : ∀ v d G' H' ρ' O', Er F G' H' σ ρ' O' → Rp F.K G' v d → (match f d ρ' with
    | .ok d' ρ2 => ∀ v G2 H2 O2, Er F G2 H2 σ ρ2 O2 → Stp ρ' O' G' H' ρ2 O2 G2 H2 → Rv F G2 H2 ρ2 O2 fr v d' → Q v H2
    | .exc x ρ2 => Xc F σ x ρ2 G'
    | .bad => False) → R v H') : rdE F m fr' σ H R := by
  obtain ⟨G, ρ, O, E, q⟩ := q
  dsimp only at q
  refine rdE_hold ⟨G, ρ, O, E, ?_⟩
  cases e1 : m ρ with
  | bad => rw [e1] at q; exact q
  | exc x ρ1 => rw [e1] at q; exact q
  | ok d ρ1 =>
    rw [e1] at q
    intro v G1 H1 O1 E1 s1 r1
    refine h v d G1 H1 ρ1 O1 E1 r1 ?_
    simp only [Dv.R.bind_ok] at q
    cases e2 : f d ρ1 with
    | bad => rw [e2] at q; exact q
    | exc x ρ2 => rw [e2] at q; exact Xc.up q s1.g
    | ok d' ρ2 =>
      rw [e2] at q
      exact fun v G2 H2 O2 E2 s2 r2 => q v G2 H2 O2 E2 (s1.trans s2) r2
theorem e_and {rest : List Expr} {m n : M D} {fr fr' : Bool} (hK : X.K = F.K) (h : PE X a (rdE F m fr)) (h2 : PE X (.BoolOp .And (b :: rest) pos) (rdE F n fr')) : PE X (.BoolOp .And (a :: b :: rest) pos) (rdE F (andV m n) false) := by
  refine peI (pe_andT h (rdE_weak h2)) fun σ H Q q => ?_
  rw [hK]
  refine rdE_bind (fr' := fr) (f := fun d ρ' => match truD d with | some true => n ρ' | some false => .ok d ρ' | none => .bad) q fun v d G' H' ρ' O' E' r q' => ?_
  cases e1 : truD d with
  | none => rw [e1] at q'; exact q'.elim
  | some c =>
    rw [e1] at q'
    refine ⟨c, tru_vw E'.gh (.inl r) e1, ?_⟩
    cases c with
    | true => exact ⟨G', ρ', O', E', q'⟩
    | false => exact q' v G' H' O' E' strf (.inr ⟨(fun e => nomatch e), r⟩)
theorem e_or {rest : List Expr} {m n : M D} {fr fr' : Bool} (hK : X.K = F.K) (h : PE X a (rdE F m fr)) (h2 : PE X (.BoolOp .Or (b :: rest) pos) (rdE F n fr')) : PE X (.BoolOp .Or (a :: b :: rest) pos) (rdE F (orV m n) false) := by
  refine peI (pe_orT h (rdE_weak h2)) fun σ H Q q => ?_
  rw [hK]
  refine rdE_bind (fr' := fr) (f := fun d ρ' => match truD d with | some true => .ok d ρ' | some false => n ρ' | none => .bad) q fun v d G' H' ρ' O' E' r q' => ?_
  cases e1 : truD d with
  | none => rw [e1] at q'; exact q'.elim
  | some c =>
    rw [e1] at q'
    refine ⟨c, tru_vw E'.gh (.inl r) e1, ?_⟩
    cases c with
    | false => exact ⟨G', ρ', O', E', q'⟩
    | true => exact q' v G' H' O' E' strf (.inr ⟨(fun e => nomatch e), r⟩)
theorem e_one {op : BoolOp} {m : M D} {fr : Bool} (h : PE X a (rdE F m fr)) : PE X (.BoolOp op [a] pos) (rdE F m fr) := pe_one h
def negD : D → Option D
  | .int i => some (.int (-i))
  | _ => none
theorem e_neg {o : Opd} {t : TE} (h : Op1 F X a o t) : PE X (.UnaryOp .USub a pos) (rdE F (opM (f1 negD) [o]) true) := by
  refine peI (pe_un un_neg h.pe) fun σ H Q q => ?_
  refine opN_rd (r := fun xs H Q => match xs with | [x] => rU (fun i => .int (-i)) x H Q | _ => False) (.cons h .nil) ?_ q
  intro G H σ ρ O xs ds d Q E va e w
  cases va with
  | nil => cases e
  | cons v1 t =>
    cases t with
    | cons _ _ => cases e
    | nil =>
      have e' : negD _ = some d := e
      unfold negD at e'
      split at e'
      · cases e'
        exact ⟨_, v1.int', w _ _ _ _ E strf rv_int⟩
      · cases e'
end
end Dv
namespace Dv
open PySem L2 PyProof.Rows
section
variable {F : Fx} {T : Tab} {N : List Str} {sc : Scope} {k : Nat} {X : Cx} {e a b : Expr} {pos : Pos}
/-! ### displays -/
theorem evO_len : ∀ {os : List Opd} {ρ ρ' : En} {ds : List D}, evO os ρ = .ok ds ρ' → ds.length = os.length
  | [], ρ, ρ', ds, h => by cases h; rfl
  | .ex m :: os, ρ, ρ', ds, h => by
    unfold evO at h
    cases e1 : m ρ with
    | bad => rw [e1] at h; cases h
    | exc x ρ1 => rw [e1] at h; cases h
    | ok d ρ1 =>
      rw [e1] at h
      simp only [R.bind_ok] at h
      cases e2 : evO os ρ1 with
      | bad => rw [e2] at h; cases h
      | exc x ρ1 => rw [e2] at h; cases h
      | ok ds' ρ2 =>
        rw [e2] at h
        cases h
        rw [List.length_cons, List.length_cons, evO_len e2]
  | .va i :: os, ρ, ρ', ds, h => by
    unfold evO at h
    cases e1 : slD ρ[i]? with
    | none => rw [e1] at h; cases h
    | some d =>
      rw [e1] at h
      simp only at h
      cases e2 : evO os ρ with
      | bad => rw [e2] at h; cases h
      | exc x ρ1 => rw [e2] at h; cases h
      | ok ds' ρ2 =>
        rw [e2] at h
        simp only [R.bind_ok] at h
        cases e3 : slD ρ2[i]? with
        | none => rw [e3] at h; cases h
        | some d => rw [e3] at h; cases h; rw [List.length_cons, List.length_cons, evO_len e2]
theorem Avs.rp {K : Frg} {G : Hp} {σ : L2.St} {ρ : En} : ∀ {os vs ds}, Avs K G σ ρ os vs ds → (∀ o ∈ os, ∃ m, o = .ex m) → RpAll K G vs ds
  | _, _, _, .nil, _ => .nil
  | _, _, _, .ex a t, h => .cons a (Avs.rp t fun o ho => h o (List.mem_cons_of_mem _ ho))
  | _, _, _, .va _ _ _, h => by
    obtain ⟨m, e⟩ := h _ List.mem_cons_self
    cases e
def tupM (ms : List (M D)) : M D := fun ρ => (evO (ms.map Opd.ex) ρ).bind fun ds ρ' => .ok (.tup ds) ρ'
def lstM (ms : List (M D)) : M D := fun ρ => (evO (ms.map Opd.ex) ρ).bind fun ds ρ' => .ok (.lst ds) ρ'
theorem ex_all {ms : List (M D)} : ∀ o ∈ ms.map Opd.ex, ∃ m, o = .ex m := fun o ho => by
  obtain ⟨m, _, rfl⟩ := List.mem_map.mp ho
  exact ⟨m, rfl⟩
theorem e_tup {es : List Expr} {ms : List (M D)} {ts : List TE} {x1 : Nat} (h : Ops F X es (ms.map Opd.ex) ts) (p : es.all plainE = true) (hl : ms.length ≤ 10000) : PE X (.Tuple es x1 pos) (rdE F (tupM ms) false) := by
  refine peI (pe_tup (pa_list h p)) fun σ H Q ⟨G, ρ, O, E, q⟩ => ?_
  show tList ts σ H _
  refine h.run σ H _ ⟨G, ρ, O, E, ?_⟩
  unfold tupM at q
  cases e1 : evO (ms.map Opd.ex) ρ with
  | bad => rw [e1] at q; exact q
  | exc x ρ1 => rw [e1] at q; exact q
  | ok ds ρ1 =>
    rw [e1] at q
    intro vs G1 H1 O1 E1 s1 a1
    have r := a1.rp ex_all
    have l := evO_len e1
    rw [List.length_map] at l
    refine ⟨?_, fun p hp => ?_⟩
    · rw [r.length, l, sizeLine_eq]; omega
    · exact E1.new_tup (fr := false) r (fun v G' H' O' E' s r => q v G' H' O' E' (s1.trans s) r) p hp
theorem e_lst {es : List Expr} {ms : List (M D)} {ts : List TE} (h : Ops F X es (ms.map Opd.ex) ts) (p : es.all plainE = true) (hl : ms.length ≤ 10000) : PE X (.List es pos) (rdE F (lstM ms) true) := by
  refine peI (pe_lst (pa_list h p)) fun σ H Q ⟨G, ρ, O, E, q⟩ => ?_
  show tList ts σ H _
  refine h.run σ H _ ⟨G, ρ, O, E, ?_⟩
  unfold lstM at q
  cases e1 : evO (ms.map Opd.ex) ρ with
  | bad => rw [e1] at q; exact q
  | exc x ρ1 => rw [e1] at q; exact q
  | ok ds ρ1 =>
    rw [e1] at q
    intro vs G1 H1 O1 E1 s1 a1
    have r := a1.rp ex_all
    have l := evO_len e1
    rw [List.length_map] at l
    refine ⟨?_, fun p hp => ?_⟩
    · rw [r.length, l, sizeLine_eq]; omega
    · exact E1.new_lst r (fun v G' H' O' E' s r => q v G' H' O' E' (s1.trans s) r) p hp
/-! ### subscripts -/
def ixI (n : Nat) (i : Int) : Option Nat := if 0 ≤ i then (if i < n then some i.toNat else none) else if -(n : Int) ≤ i then some (i + n).toNat else none
def ixD : D → D → Option D
  | .tup xs, .int i => (ixI xs.length i).bind fun j => xs[j]?
  | .lst xs, .int i => (ixI xs.length i).bind fun j => xs[j]?
  | .scr ns, .int i => (ixI ns.length i).bind fun j => ns[j]?.map D.int
  | .str s, .int i => if s.length ≤ sizeLine then (ixI s.length i).bind fun j => s.cps.toList[j]?.map fun c => D.str ⟨#[c]⟩ else none
  | _, _ => none
theorem ixN_eq (n : Nat) (i : Int) : ixN n i = ixI n i := rfl
theorem atI_of {K : Frg} {G : Hp} {xs : List V} {ds : List D} {i : Int} {d : D} (r : RpAll K G xs ds) (e : ((ixI ds.length i).bind fun j => ds[j]?) = some d) : ∃ v, atI xs i = some v ∧ Rp K G v d := by
  cases q : ixI ds.length i with
  | none => rw [q] at e; cases e
  | some j =>
    rw [q] at e
    obtain ⟨v, h1, h2⟩ := r.get (i := j) e
    refine ⟨v, ?_, h2⟩
    unfold atI
    rw [ixN_eq, r.length, q]
    exact h1
theorem op2_ix (hK : X.K = F.K) : IxR X (rIx X.K) ∧ Op2g F ixD false (rIx X.K) := by
  refine ⟨ix_seq, ?_⟩
  intro G H σ ρ O x y a b d Q E va vb e w
  unfold ixD at e
  split at e
  · obtain ⟨p, xs, rfl, h1, h2⟩ := va.tup'
    obtain ⟨v, h3, h4⟩ := atI_of h2 e
    exact .inr (.inl ⟨p, xs, _, v, rfl, vb.int', by rw [hK]; exact sqT_up E.gh h1, h3, w _ _ _ _ E strf (.inr ⟨(fun e => nomatch e), h4⟩)⟩)
  · obtain ⟨p, xs, rfl, h1, h2⟩ := va.lst' E.gh
    obtain ⟨v, h3, h4⟩ := atI_of h2 e
    exact .inl ⟨p, xs, _, v, rfl, vb.int', .inl (.inl h1), h3, w _ _ _ _ E strf (.inr ⟨(fun e => nomatch e), h4⟩)⟩
  · rename_i ns i
    obtain ⟨p, rfl, h1⟩ := va.scr'
    cases q : ixI ns.length i with
    | none => rw [q] at e; cases e
    | some j =>
      rw [q] at e
      have e' : ns[j]?.map D.int = some d := e
      cases q2 : ns[j]? with
      | none => rw [q2] at e'; cases e'
      | some n =>
        rw [q2] at e'
        cases e'
        refine .inl ⟨p, _, i, .int n, rfl, vb.int', by rw [hK]; exact E.gh.seq h1, ?_, w _ _ _ _ E strf rv_int⟩
        unfold atI
        rw [ixN_eq, List.length_map, q]
        show (ns.map V.int)[j]? = _
        rw [List.getElem?_map, q2]
        rfl
  · rename_i s i
    split at e
    · rename_i hz
      cases q : ixI s.length i with
      | none => rw [q] at e; cases e
      | some j =>
        rw [q] at e
        have e' : s.cps.toList[j]?.map (fun c => D.str ⟨#[c]⟩) = some d := e
        cases q2 : s.cps.toList[j]? with
        | none => rw [q2] at e'; cases e'
        | some n =>
          rw [q2] at e'
          cases e'
          refine .inr (.inr ⟨s, i, n, va.str', vb.int', hz, ?_, w _ _ _ _ E strf rv_str⟩)
          unfold atI
          have hl : s.cps.toList.length = s.length := by simp [Str.length]
          rw [ixN_eq, hl, q]
          exact q2
    · cases e
  · cases e
def plainIxE : Expr → Bool
  | .Slice _ _ _ _ => false
  | _ => true
theorem ixk_of {e : Expr} (h : plainE e = true) : PlainIx e := by
  intro o i
  cases e <;> first | rfl | cases h
theorem e_ix {oa ob : Opd} {ta tb : TE} (hK : X.K = F.K) (ha : Op1 F X a oa ta) (hb : Op1 F X b ob tb) (p : plainE b = true) : PE X (.Subscript a b pos) (rdE F (opM (f2 ixD) [oa, ob]) false) := by
  obtain ⟨h1, h2⟩ := op2_ix (F := F) hK
  exact peI (pe_ix h1 ha.pe hb.pe (ixk_of p)) fun σ H Q q => op2_rd ha hb h2 q
/-! ### slices -/
def cutL {α : Type} (xs : List α) (lo hi : Option Int) : List α := (xs.drop (HT.sIx xs.length 0 lo)).take (HT.sIx xs.length xs.length hi - HT.sIx xs.length 0 lo)
def slD3 (d : D) (lo hi : Option Int) : Option D := match d with
  | .tup xs => some (.tup (cutL xs lo hi))
  | .lst xs => some (.lst (cutL xs lo hi))
  | .str s => if s.length ≤ sizeLine then some (.str ⟨(cutL s.cps.toList lo hi).toArray⟩) else none
  | _ => none
theorem rp_cut {K : Frg} {G : Hp} {xs : List V} {ds : List D} (r : RpAll K G xs ds) (lo hi : Option Int) : RpAll K G (cutV xs lo hi) (cutL ds lo hi) := by
  unfold cutV cutL
  rw [r.length]
  exact (r.drop _).take _
def rSlX (K : Frg) : V → Option Int → Option Int → Hp → VK → Prop := fun x lo hi H Q => rSlA K x lo hi H Q ∨ rSlL K x lo hi H Q ∨ rSlS x lo hi H Q
theorem sl_x : SlR X (rSlX X.K) := sl_tupA.or (sl_list.or sl_str)
theorem sl_dat (hK : X.K = F.K) {G H : Hp} {σ : L2.St} {ρ : En} {O : Nat → List Addr} {x : V} {lo hi : Option Int} {a d : D} {Q : VK} (E : Er F G H σ ρ O) (va : Vw F.K G H x a) (e : slD3 a lo hi = some d) (w : Wants F G H σ ρ O true d Q) : rSlX X.K x lo hi H Q := by
  unfold slD3 at e
  split at e
  · rename_i ds
    cases e
    obtain ⟨p, xs, rfl, h1, h2⟩ := va.tup'
    refine .inl ⟨p, xs, rfl, by rw [hK]; exact sqT_up E.gh h1, fun q => ?_, fun _ => E.new_tup (rp_cut h2 lo hi) w⟩
    refine w _ _ _ _ E strf (rv_val rfl (.tup h1 ?_))
    have ec : cutL ds lo hi = ds := by
      unfold cutL
      rw [← h2.length, q.1, q.2, List.drop_zero, Nat.sub_zero, h2.length, List.take_length]
    rw [ec]
    exact h2
  · cases e
    obtain ⟨p, xs, rfl, h1, h2⟩ := va.lst' E.gh
    exact .inr (.inl ⟨p, xs, rfl, .inl (.inl h1), E.new_lst (rp_cut h2 lo hi) w⟩)
  · rename_i s
    split at e
    · rename_i hz
      cases e
      refine .inr (.inr ⟨s, va.str', hz, ?_⟩)
      have ec : cutS s lo hi = ⟨(cutL s.cps.toList lo hi).toArray⟩ := by
        unfold cutS cutL
        simp [Str.length]
      rw [ec]
      exact w _ _ _ _ E strf rv_str
    · cases e
  · cases e
/-- a part of a slice that is there -/
def intOf : D → Option Int
  | .int i => some i
  | _ => none
def sl0 : List D → Option D
  | [d] => slD3 d none none
  | _ => none
def slL : List D → Option D
  | [d, .int i] => slD3 d (some i) none
  | _ => none
def slH : List D → Option D
  | [d, .int i] => slD3 d none (some i)
  | _ => none
/-- an operand looked at once more -/
def again (o : Opd) (d : D) (ρ : En) : Option D := match o with
  | .va i => slD ρ[i]?
  | .ex _ => some d
def slB (oa oc oc2 : Opd) : M D := fun ρ => (evO [oa, oc] ρ).bind fun ds ρ1 => match ds with
  | [d, .int i] => (evO [oc2] ρ1).bind fun es ρ2 => (match es with
    | [.int j] => (match again oa d ρ2 with
      | some d' => (match slD3 d' (some i) (some j) with
        | some r => .ok r ρ2
        | none => .bad)
      | none => .bad)
    | _ => .bad)
  | _ => .bad
theorem e_sl0 {oa : Opd} {ta : TE} {p2 : Pos} (hK : X.K = F.K) (ha : Op1 F X a oa ta) : PE X (.Subscript a (.Slice none none none p2) pos) (rdE F (opM sl0 [oa]) true) := by
  refine peI (pe_slice sl_x ha.pe po_none po_none) fun σ H Q q => ?_
  refine opN_rd (r := fun xs H Q => match xs with | [x] => rSlX X.K x none none H Q | _ => False) (.cons ha .nil) ?_ q
  intro G H σ ρ O xs ds d Q E va e w
  cases va with
  | nil => cases e
  | cons v1 t =>
    cases t with
    | cons _ _ => cases e
    | nil => exact sl_dat hK E v1 e w
theorem e_slL {c : Expr} {oa oc : Opd} {ta tc : TE} {p2 : Pos} (hK : X.K = F.K) (ha : Op1 F X a oa ta) (hc : Op1 F X c oc tc) : PE X (.Subscript a (.Slice (some c) none none p2) pos) (rdE F (opM slL [oa, oc]) true) := by
  refine peI (pe_slice sl_x ha.pe (po_some hc.pe) po_none) fun σ H Q q => ?_
  show tList [ta, tc] σ H (fun xs H3 => match xs with | [x, y] => ∃ i, y = .int i ∧ rSlX X.K x (some i) none H3 Q | _ => False)
  refine opN_rd (r := fun xs H Q => match xs with | [x, y] => ∃ i, y = .int i ∧ rSlX X.K x (some i) none H Q | _ => False) (.cons ha (.cons hc .nil)) ?_ q
  intro G H σ ρ O xs ds d Q E va e w
  cases va with
  | nil => cases e
  | cons v1 t =>
    cases t with
    | nil => cases e
    | cons v2 t =>
      cases t with
      | cons _ _ => simp [slL] at e
      | nil =>
        rename_i d1 _ d2
        cases d2 <;> try cases e
        exact ⟨_, v2.int', sl_dat hK E v1 e w⟩
theorem e_slH {c : Expr} {oa oc : Opd} {ta tc : TE} {p2 : Pos} (hK : X.K = F.K) (ha : Op1 F X a oa ta) (hc : Op1 F X c oc tc) : PE X (.Subscript a (.Slice none (some c) none p2) pos) (rdE F (opM slH [oa, oc]) true) := by
  refine peI (pe_slice sl_x ha.pe po_none (po_some hc.pe)) fun σ H Q q => ?_
  show tList [ta, tc] σ H (fun xs H3 => match xs with | [x, y] => ∃ i, y = .int i ∧ rSlX X.K x none (some i) H3 Q | _ => False)
  refine opN_rd (r := fun xs H Q => match xs with | [x, y] => ∃ i, y = .int i ∧ rSlX X.K x none (some i) H Q | _ => False) (.cons ha (.cons hc .nil)) ?_ q
  intro G H σ ρ O xs ds d Q E va e w
  cases va with
  | nil => cases e
  | cons v1 t =>
    cases t with
    | nil => cases e
    | cons v2 t =>
      cases t with
      | cons _ _ => simp [slH] at e
      | nil =>
        rename_i d1 _ d2
        cases d2 <;> try cases e
        exact ⟨_, v2.int', sl_dat hK E v1 e w⟩
theorem e_slB {c c2 : Expr} {oa oc oc2 : Opd} {ta tc tc2 : TE} {p2 : Pos} (hK : X.K = F.K) (ha : Op1 F X a oa ta) (hc : Op1 F X c oc tc) (hc2 : Op1 F X c2 oc2 tc2) : PE X (.Subscript a (.Slice (some c) (some c2) none p2) pos) (rdE F (slB oa oc oc2) true) := by
  refine peI (pe_slice sl_x ha.pe (po_some hc.pe) (po_some hc2.pe)) fun σ H Q q => ?_
  obtain ⟨G, ρ, O, E, q⟩ := q
  show tList [ta, tc] σ H (fun xs H2 => match xs with | [x, y] => ∃ i, y = .int i ∧ tc2 σ H2 (fun z H3 => ∃ j, z = .int j ∧ rSlX X.K x (some i) (some j) H3 Q) | _ => False)
  refine (Ops.cons ha (.cons hc .nil)).run σ H _ ⟨G, ρ, O, E, ?_⟩
  unfold slB at q
  cases e1 : evO [oa, oc] ρ with
  | bad => rw [e1] at q; exact q
  | exc x ρ1 => rw [e1] at q; exact q
  | ok ds ρ1 =>
    rw [e1] at q
    intro vs G1 H1 O1 E1 s1 a1
    simp only [R.bind_ok] at q
    have va := a1.vw E1
    cases va with
    | nil => exact q.elim
    | cons v1 t =>
      cases t with
      | nil => exact q.elim
      | cons v2 t =>
        cases t with
        | cons _ _ => simp only at q
        | nil =>
          rename_i x d y dy
          cases dy with
          | int i =>
            refine ⟨i, v2.int', ?_⟩
            show tList [tc2] σ H1 (fun xs H3 => match xs with | [z] => ∃ j, z = .int j ∧ rSlX X.K x (some i) (some j) H3 Q | _ => False)
            refine (Ops.cons hc2 .nil).run σ H1 _ ⟨G1, ρ1, O1, E1, ?_⟩
            simp only at q
            cases e2 : evO [oc2] ρ1 with
            | bad => rw [e2] at q; exact q
            | exc x ρ1 => rw [e2] at q; exact Xc.up q s1.g
            | ok es ρ2 =>
              rw [e2] at q
              intro ws G2 H2 O2 E2 s2 a2
              simp only [R.bind_ok] at q
              have vb := a2.vw E2
              cases vb with
              | nil => exact q.elim
              | cons w1 t =>
                cases t with
                | cons _ _ => simp only at q
                | nil =>
                  rename_i z dz
                  cases dz with
                  | int j =>
                    refine ⟨j, w1.int', ?_⟩
                    simp only at q
                    cases e3 : again oa d ρ2 with
                    | none => rw [e3] at q; exact q.elim
                    | some d' =>
                      rw [e3] at q
                      simp only at q
                      cases e4 : slD3 d' (some i) (some j) with
                      | none => rw [e4] at q; exact q.elim
                      | some r =>
                        rw [e4] at q
                        refine sl_dat hK E2 ?_ e4 fun v G' H' O' E' s r => q v G' H' O' E' ((s1.trans s2).trans s) r
                        cases a1 with
                        | ex h1 h2 =>
                          cases e3
                          exact .inl (h1.up s2.g)
                        | va h1 h2 h3 =>
                          obtain ⟨v, h4, h5⟩ := E2.slot e3
                          rw [h1] at h4
                          cases h4
                          exact h5
                  | _ => exact q.elim
          | _ => exact q.elim
end
end Dv
namespace Dv
open PySem L2 PyProof.Rows
section
variable {F : Fx} {T : Tab} {N : List Str} {sc : Scope} {k : Nat} {X : Cx} {e a b : Expr} {pos : Pos}
/-! ### calls of defs -/
def giveAll (ρ : En) : En := ρ.map fun s => match s with
  | .own d => .val d
  | s => s
/-- is slot i handed over by name -/
def passedB (os : List Opd) (i : Nat) : Bool := os.any fun o => match o with
  | .va j => j == i
  | _ => false
def gvS (b : Bool) : Sl → Sl
  | .own d => if b then .val d else .own d
  | s => s
def kpS (b : Bool) : Sl → Sl
  | .own d => if b then .own d else .no
  | s => s
/-- the lists that are handed over stand for good behind the call -/
def giveOs (os : List Opd) (ρ : En) : En := ρ.mapIdx fun i s => gvS (passedB os i) s
def keepOs (os : List Opd) (ρ : En) : En := ρ.mapIdx fun i s => kpS (passedB os i) s
theorem giveOs_own {os : List Opd} {ρ : En} {i : Nat} {d : D} (h : (giveOs os ρ)[i]? = some (.own d)) : ρ[i]? = some (.own d) ∧ passedB os i = false := by
  unfold giveOs at h
  rw [List.getElem?_mapIdx] at h
  cases e : ρ[i]? with
  | none => rw [e] at h; cases h
  | some s =>
    rw [e] at h
    cases s with
    | no => cases h
    | val d' => cases h
    | own d' =>
      cases p : passedB os i with
      | true => rw [p] at h; cases h
      | false => rw [p] at h; cases h; exact ⟨rfl, rfl⟩
theorem keepOs_own {os : List Opd} {ρ : En} {i : Nat} {d : D} (h : (keepOs os ρ)[i]? = some (.own d)) : ρ[i]? = some (.own d) ∧ passedB os i = true := by
  unfold keepOs at h
  rw [List.getElem?_mapIdx] at h
  cases e : ρ[i]? with
  | none => rw [e] at h; cases h
  | some s =>
    rw [e] at h
    cases s with
    | no => cases h
    | val d' => cases h
    | own d' =>
      cases p : passedB os i with
      | true => rw [p] at h; cases h; exact ⟨rfl, rfl⟩
      | false => rw [p] at h; cases h
theorem keepOs_val {os : List Opd} {ρ : En} {i : Nat} {d : D} (h : (keepOs os ρ)[i]? = some (.val d)) : ρ[i]? = some (.val d) := by
  unfold keepOs at h
  rw [List.getElem?_mapIdx] at h
  cases e : ρ[i]? with
  | none => rw [e] at h; cases h
  | some s =>
    rw [e] at h
    cases s with
    | no => cases h
    | val d' => cases h; rfl
    | own d' => cases p : passedB os i <;> rw [p] at h <;> cases h
theorem giveOs_val {os : List Opd} {ρ : En} {i : Nat} {d : D} (h : (giveOs os ρ)[i]? = some (.val d)) : slD (keepOs os ρ)[i]? = some d := by
  unfold giveOs at h
  unfold keepOs
  rw [List.getElem?_mapIdx] at h ⊢
  cases e : ρ[i]? with
  | none => rw [e] at h; cases h
  | some s =>
    rw [e] at h
    cases s with
    | no => cases h
    | val d' => cases h; rfl
    | own d' =>
      cases p : passedB os i with
      | true => rw [p] at h; cases h; rfl
      | false => rw [p] at h; cases h
theorem keepOs_sl {os : List Opd} {ρ : En} {i : Nat} {d : D} (h : slD ρ[i]? = some d) (hp : passedB os i = true) : slD (keepOs os ρ)[i]? = some d := by
  unfold keepOs
  rw [List.getElem?_mapIdx, hp]
  cases e : ρ[i]? with
  | none => rw [e] at h; cases h
  | some s =>
    rw [e] at h
    cases s with
    | no => cases h
    | val d' => exact h
    | own d' => exact h
theorem Er.keptOs {F : Fx} {G H : Hp} {σ : L2.St} {ρ : En} {O : Nat → List Addr} (E : Er F G H σ ρ O) (os : List Opd) : Er F G H σ (keepOs os ρ) O where
  len := by unfold keepOs; rw [List.length_mapIdx]; exact E.len
  g0 := E.g0
  h0 := E.h0
  gh := E.gh
  new := E.new
  val := fun i d q => E.val i d (keepOs_val q)
  own := fun i d q => E.own i d (keepOs_own q).1
  dis := fun i j d e n q1 q2 => E.dis i j d e n (keepOs_own q1).1 (keepOs_own q2).1
  held := fun a o e => let ⟨h1, h2, h3⟩ := E.held a o e; ⟨h1, h2, fun i d q => h3 i d (keepOs_own q).1⟩
  tab := E.tab
theorem avs_kept {K : Frg} {G : Hp} {σ : L2.St} {ρ : En} {os os' : List Opd} {vs : List V} {ds : List D} (a : Avs K G σ ρ os' vs ds) : (∀ i, Opd.va i ∈ os' → passedB os i = true) → Avs K G σ (keepOs os ρ) os' vs ds := by
  induction a with
  | nil => exact fun _ => .nil
  | ex a _ ih => exact fun hs => .ex a (ih fun i h => hs i (List.mem_cons_of_mem _ h))
  | va a b _ ih => exact fun hs => .va a (keepOs_sl b (hs _ (List.mem_cons_self ..))) (ih fun i h => hs i (List.mem_cons_of_mem _ h))
theorem passed_mem {os : List Opd} {i : Nat} (h : Opd.va i ∈ os) : passedB os i = true := by
  unfold passedB
  exact List.any_eq_true.mpr ⟨_, h, beq_self_eq_true i⟩
def hasOwn (os : List Opd) (ρ : En) : Bool := os.any fun o => match o with
  | .va i => (match ρ[i]? with
    | some (.own _) => true
    | _ => false)
  | _ => false
def callM (s : Fn) (os : List Opd) : M D := fun ρ => (evO os ρ).bind fun ds ρ' => match s ds with
  | .ok d => .ok d (if hasOwn os ρ' then (if indep d then ρ' else giveOs os ρ') else ρ')
  | .exc x => .exc x ρ'
  | .bad => .bad
theorem Avs.noOwn {K : Frg} {G H : Hp} {σ : L2.St} {ρ : En} {O : Nat → List Addr} {F : Fx} (E : Er F G H σ ρ O) : ∀ {os vs ds}, Avs F.K G σ ρ os vs ds → hasOwn os ρ = false → RpAll F.K G vs ds
  | _, _, _, .nil, _ => .nil
  | _, _, _, .ex a t, h => .cons a (Avs.noOwn (K := K) E t (by simpa [hasOwn] using h))
  | _, _, _, .va (i := i) a b t, h => by
    have h' := h
    unfold hasOwn at h'
    rw [List.any_cons, Bool.or_eq_false_iff] at h'
    rcases slD_cases b with e | e
    · obtain ⟨v, h1, h2⟩ := E.val i _ e
      rw [a] at h1
      cases h1
      exact .cons h2 (Avs.noOwn (K := K) E t h'.2)
    · simp only [e, Bool.true_eq_false, false_and] at h'
theorem Er.grow {G H : Hp} {σ : L2.St} {ρ : En} {O : Nat → List Addr} (E : Er F G H σ ρ O) {G2 H2 : Hp} (g : Grow G H G2 H2) : Er F G2 H2 σ ρ O where
  len := E.len
  g0 := E.g0.trans g.g
  h0 := E.h0.trans g.h
  tab := ⟨g.gt, E.tab.bt, fun P hP => (E.tab.tb P hP).ext g.h⟩
  gh := g.gh
  new := fun a o e n => by
    cases q : G a with
    | none => exact E.h0none (g.new a o e q)
    | some o' => exact E.new a o' q n
  val := fun i d q => let ⟨v, a, b⟩ := E.val i d q; ⟨v, a, b.up g.g⟩
  own := fun i d q => by
    obtain ⟨p, o, h1, h2, h3, h4, h5, h6⟩ := E.own i d q
    refine ⟨p, o, h1, h2, g.h.obj _ _ h3 h6.noT, ?_, h5, h6.up g.g⟩
    cases q2 : G2 p with
    | none => rfl
    | some o' =>
      have := g.new p o' q2 h4
      rw [h3] at this
      cases this
  dis := E.dis
  held := fun a o e => by
    obtain ⟨h1, h2, h3⟩ := E.held a o e
    refine ⟨g.h.obj _ _ h1 (E.tab.bt.no e), ?_, h3⟩
    cases z : G2 a with
    | none => rfl
    | some o' =>
      have := g.new a o' z h2
      rw [h1] at this
      cases this
theorem rvF_rv {G H : Hp} {σ : L2.St} {ρ : En} {O : Nat → List Addr} (E : Er F G H σ ρ O) {G2 H2 : Hp} {v : V} {d : D} {fr : Bool} (r : RvF F.K H G2 H2 v d) : Rv F G2 H2 ρ O true v d := by
  rcases r with ⟨p, o, rfl, h1, h2, h3, h4⟩ | ⟨m, h⟩
  · exact .inl ⟨p, o, rfl, rfl, h2, h3, E.h0none h1, E.bnone h1, E.notown h1, h4⟩
  · exact .inr ⟨fun _ => m, h⟩
/-- all slots' lists for good, behind a call that borrowed them -/
theorem Er.gaveAll {G H : Hp} {σ : L2.St} {ρ : En} {O : Nat → List Addr} (E : Er F G H σ ρ O) {G2 H2 : Hp} (g : Grow (lent ρ O G H) H G2 H2) : Er F G2 H2 σ (giveAll ρ) O where
  len := by unfold giveAll; rw [List.length_map]; exact E.len
  g0 := (E.g0.trans E.lent1).trans g.g
  h0 := E.h0.trans g.h
  tab := ⟨g.gt, E.tab.bt, fun P hP => (E.tab.tb P hP).ext g.h⟩
  gh := g.gh
  new := fun a o e n => by
    cases q : lent ρ O G H a with
    | none => exact E.h0none (g.new a o e q)
    | some o' =>
      by_cases h : Owned ρ O a
      · obtain ⟨_, _, _, _, _, _, _, _, z, _⟩ := E.owned h
        exact z
      · rw [lent_ne h] at q
        exact E.new a o' q n
  val := fun i d q => by
    have q' : slD ρ[i]? = some d := by
      unfold giveAll at q
      rw [List.getElem?_map] at q
      cases e : ρ[i]? with
      | none => rw [e] at q; cases q
      | some s =>
        rw [e] at q
        cases s with
        | no => cases q
        | val d' => cases q; rfl
        | own d' => cases q; rfl
    obtain ⟨v, h1, h2⟩ := E.lentSlot q'
    exact ⟨v, h1, h2.up g.g⟩
  own := fun i d q => by
    unfold giveAll at q
    rw [List.getElem?_map] at q
    cases e : ρ[i]? with
    | none => rw [e] at q; cases q
    | some s => rw [e] at q; cases s <;> cases q
  dis := fun i j d e' _ q _ => by
    unfold giveAll at q
    rw [List.getElem?_map] at q
    cases e : ρ[i]? with
    | none => rw [e] at q; cases q
    | some s => rw [e] at q; cases s <;> cases q
  held := fun a o e => by
    obtain ⟨h1, h2, h3⟩ := E.held a o e
    have nh : ¬ Owned ρ O a := fun ⟨i, d, q, m⟩ => h3 i d q m
    refine ⟨g.h.obj _ _ h1 (E.tab.bt.no e), ?_, fun j d q => ?_⟩
    · cases z : G2 a with
      | none => rfl
      | some o' =>
        have := g.new a o' z (by rw [lent_ne nh]; exact h2)
        rw [h1] at this
        cases this
    · unfold giveAll at q
      rw [List.getElem?_map] at q
      cases e : ρ[j]? with
      | none => rw [e] at q; cases q
      | some s => rw [e] at q; cases s <;> cases q
/-- the lists handed over for good, the others are the def's own still -/
theorem Er.gaveOs {G H : Hp} {σ : L2.St} {ρ : En} {O : Nat → List Addr} (E : Er F G H σ ρ O) (os : List Opd) {G2 H2 : Hp} (g : Grow (lent (keepOs os ρ) O G H) H G2 H2) : Er F G2 H2 σ (giveOs os ρ) O := by
  have E' := E.keptOs os
  have nOwn : ∀ {i : Nat} {d : D} {p : Addr}, ρ[i]? = some (.own d) → passedB os i = false → O i = [p] → ¬ Owned (keepOs os ρ) O p := fun {i d p} q np ho ⟨j, e, qj, m⟩ => by
    obtain ⟨qj', pj⟩ := keepOs_own qj
    have ne : i ≠ j := fun z => by rw [z, pj] at np; cases np
    exact E.dis i j d e ne q qj' p (by rw [ho]; simp) m
  exact {
    len := by unfold giveOs; rw [List.length_mapIdx]; exact E.len
    g0 := (E.g0.trans E'.lent1).trans g.g
    h0 := E.h0.trans g.h
    tab := ⟨g.gt, E.tab.bt, fun P hP => (E.tab.tb P hP).ext g.h⟩
    gh := g.gh
    new := fun a o e n => by
      cases q : lent (keepOs os ρ) O G H a with
      | none => exact E.h0none (g.new a o e q)
      | some o' =>
        by_cases h : Owned (keepOs os ρ) O a
        · obtain ⟨_, _, _, _, _, _, _, _, z, _⟩ := E'.owned h
          exact z
        · rw [lent_ne h] at q
          exact E.new a o' q n
    val := fun i d q => by
      obtain ⟨v, h1, h2⟩ := E'.lentSlot (giveOs_val q)
      exact ⟨v, h1, h2.up g.g⟩
    own := fun i d q => by
      obtain ⟨q', np⟩ := giveOs_own q
      obtain ⟨p, o, h1, h2, h3, h4, h5, h6⟩ := E.own i d q'
      have nh := nOwn q' np h2
      refine ⟨p, o, h1, h2, g.h.obj _ _ h3 h6.noT, ?_, h5, (h6.up E'.lent1).up g.g⟩
      cases z : G2 p with
      | none => rfl
      | some o' =>
        have := g.new p o' z (by rw [lent_ne nh]; exact h4)
        rw [h3] at this
        cases this
    dis := fun i j d e n q1 q2 => E.dis i j d e n (giveOs_own q1).1 (giveOs_own q2).1
    held := fun a o e => by
      obtain ⟨h1, h2, h3⟩ := E.held a o e
      have nh : ¬ Owned (keepOs os ρ) O a := fun ⟨i, d, q, m⟩ => h3 i d (keepOs_own q).1 m
      refine ⟨g.h.obj _ _ h1 (E.tab.bt.no e), ?_, fun j d q => h3 j d (giveOs_own q).1⟩
      cases z : G2 a with
      | none => rfl
      | some o' =>
        have := g.new a o' z (by rw [lent_ne nh]; exact h2)
        rw [h1] at this
        cases this }
theorem stp_giveAll {G H : Hp} {ρ : En} {O : Nat → List Addr} {G2 H2 : Hp} (s : Same G G2) (h : Ext H H2) : Stp ρ O G H (giveAll ρ) O G2 H2 := ⟨s⟩
theorem callM_rd {es : List Expr} {os : List Opd} {ts : List TE} {n : Nat} {s : Fn} (h : Ops F X es os ts) (hn : es.length = n) {σ : L2.St} {H : Hp} {Q : VK} (q : rdE F (callM s os) true σ H Q) : tList ts σ H fun vs H1 => spF F.K F.XR n s vs H1 Q (WE F.W σ) := by
  have ho : os.length = n := by
    rw [← hn]
    clear q hn
    induction h with
    | nil => rfl
    | cons _ _ ih => rw [List.length_cons, List.length_cons, ih]
  obtain ⟨G, ρ, O, E, q⟩ := q
  refine h.run σ H _ ⟨G, ρ, O, E, ?_⟩
  unfold callM at q
  cases e1 : evO os ρ with
  | bad => rw [e1] at q; exact q
  | exc x ρ1 => rw [e1] at q; exact q
  | ok ds ρ1 =>
    rw [e1] at q
    intro vs G1 H1 O1 E1 s1 a1
    simp only [R.bind_ok] at q
    have hl : ds.length = n := by rw [evO_len e1, ho]
    cases e2 : s ds with
    | bad => rw [e2] at q; exact q.elim
    | exc x =>
      rw [e2] at q
      refine ⟨lent ρ1 O1 G1 H1, ds, E1.lent2, E1.lentNo, E1.tab.tb, a1.lent E1, hl, ?_⟩
      rw [e2]
      exact fun c dx H' sh xr => q c dx G1 H' O1 ⟨E1.len, E1.g0, E1.h0.trans sh, fun a o e => sh.obj a o (E1.gh a o e) (E1.tab.gt.no e), E1.new, E1.val, fun i d z => let ⟨p, o, h1, h2, h3, h4, h5, h6⟩ := E1.own i d z; ⟨p, o, h1, h2, sh.obj _ _ h3 h6.noT, h4, h5, h6⟩, E1.dis, fun a o e => let ⟨h1, h2, h3⟩ := E1.held a o e; ⟨sh.obj _ _ h1 (E1.tab.bt.no e), h2, h3⟩, E1.tab.ext sh⟩ s1.g xr
    | ok d =>
      rw [e2] at q
      cases ow : hasOwn os ρ1 with
      | false =>
        rw [ow] at q
        simp only [Bool.false_eq_true, if_false] at q
        refine ⟨G1, ds, E1.gh, E1.tab.gt, E1.tab.tb, Avs.noOwn (K := F.K) (G := G1) E1 a1 ow, hl, ?_⟩
        rw [e2]
        exact fun v G' H' g r => q v G' H' O1 (E1.grow g) (s1.trans (.ofG g.g)) (rvF_rv (fr := true) E1 r)
      | true =>
        rw [ow] at q
        simp only [if_true] at q
        cases ind : indep d with
        | false =>
          rw [ind] at q
          simp only [Bool.false_eq_true, if_false] at q
          have E' := E1.keptOs os
          refine ⟨lent (keepOs os ρ1) O1 G1 H1, ds, E'.lent2, E'.lentNo, E1.tab.tb, (avs_kept a1 (fun i h => passed_mem h)).lent E', hl, ?_⟩
          rw [e2]
          intro v G' H' g r
          refine q v G' H' O1 (E1.gaveOs os g) (s1.trans (.ofG (E'.lent1.trans g.g))) ?_
          rcases r with ⟨p, o, rfl, h1, h2, h3, h4⟩ | ⟨m, h⟩
          · exact .inl ⟨p, o, rfl, rfl, h2, h3, E1.h0none h1, E1.bnone h1, fun i d' z => E1.notown h1 i d' (giveOs_own z).1, h4⟩
          · exact .inr ⟨fun _ => m, h⟩
        | true =>
          rw [ind] at q
          simp only [if_true] at q
          refine ⟨lent ρ1 O1 G1 H1, ds, E1.lent2, E1.lentNo, E1.tab.tb, a1.lent E1, hl, ?_⟩
          rw [e2]
          intro v G' H' g r
          have ht : ∀ {a xs}, SqT F.K G' a xs → SqT F.K (unlent ρ1 O1 G') a xs := fun {a xs} h => by
            have nh : ∀ u, G' a = some u → (∀ ys, u ≠ .lst ys) → (∀ ys, u ≠ .dK ys) → ¬ Owned ρ1 O1 a := fun u hu n1 n2 ow => by
              obtain ⟨_, _, o, _, _, _, h3, _, _, h6⟩ := E1.owned ow
              have := g.gh _ _ hu
              rw [g.h.obj _ _ h3 h6.noT] at this
              cases this
              cases h6
              · exact n1 _ rfl
              · exact n2 _ rfl
            rcases h with (h | ⟨u, h⟩) | h
            · exact .inl (.inl (by rw [unlent_ne (nh _ h (fun _ e => nomatch e) (fun _ e => nomatch e))]; exact h))
            · exact .inl (.inr ⟨u, by rw [unlent_ne (nh _ h (fun _ e => nomatch e) (fun _ e => nomatch e))]; exact h⟩)
            · exact .inr h
          refine q v (unlent ρ1 O1 G') H' O1 (E1.back g) (s1.trans (.ofG (E1.backG g))) ?_
          rcases r with ⟨p, o, rfl, h1, h2, h3, h4⟩ | ⟨m, h⟩
          · refine .inl ⟨p, o, rfl, rfl, h2, ?_, E1.h0none h1, E1.bnone h1, E1.notown h1, ?_⟩
            · cases z : unlent ρ1 O1 G' p with
              | none => rfl
              | some o' =>
                by_cases ow : Owned ρ1 O1 p
                · rw [unlent_at ow] at z; cases z
                · rw [unlent_ne ow, h3] at z; cases z
            · cases h4 with
              | lst h4 => exact .lst ((rp_pure ht).2 _ _ h4 ind)
              | dic l h4 => exact .dic l ((rp_pure ht).2 _ _ h4 ind)
          · refine .inr ⟨fun _ => m, (rp_pure ht).1 _ _ h ?_⟩
            cases d <;> first | exact ind | cases m
theorem e_call {x : Str} {p : Pos} {es : List Expr} {os : List Opd} {ts : List TE} {n : Nat} {s : Fn} (o : Xo F T N sc k X) (hm : ⟨x, n, s⟩ ∈ T.fns) (gl : Gl X x) (h : Ops F X es os ts) (pl : es.all plainE = true) (hn : es.length = n) (hd : (x == ("__debug__" : Str)) = false) :
    PE X (.Call (.Name x p) es [] pos) (rdE F (callM s os) true) := by
  have hK := o.hK
  cases hh : T.hot with
  | true =>
    obtain ⟨hc, f, fd, ps, h1, h2, h3, h4⟩ := (o.fns _ hm).2 hh
    refine ⟨fun pins s' σ H Q I q => ?_⟩
    have q' := callM_rd h hn q
    rw [← hK] at q'
    cases es with
    | nil =>
      cases h
      refine wpAny_Call_Name_kw (ld_glob I gl h1 ?_ hd)
      exact PySem.W.callWith_K0 I.kIn h2 (L2H.run_fnH (us := []) (E := WE F.W) h4 o.room hc h3 (o.pass σ) I .nil q')
    | cons e1 es =>
      rw [List.all_cons, Bool.and_eq_true] at pl
      exact (L2H.pe_callH h4 o.room hc gl h1 h2 h3 o.pass (pa_list h (by rw [List.all_cons, pl.1, pl.2]; rfl)) hd (star_of pl.1 _ _) (nostar _ _ pl.2)).run pins s' σ H Q I q'
  | false =>
  have rm := o.rm hh
  obtain ⟨f, fd, ps, h1, h2, h3, h4⟩ := (o.fns _ hm).1 hh
  refine ⟨fun pins s' σ H Q I q => ?_⟩
  have q' := callM_rd h hn q
  rw [← hK] at q'
  cases es with
  | nil =>
    cases h
    refine wpAny_Call_Name_kw (ld_glob I gl h1 ?_ hd)
    exact PySem.W.callWith_K0 I.kIn h2 (run_fnS (us := []) (E := WE F.W) h4 rm h3 (o.pass σ) I .nil q')
  | cons e1 es =>
    rw [List.all_cons, Bool.and_eq_true] at pl
    exact (pe_callS h4 rm gl h1 h2 h3 o.pass (pa_list h (by rw [List.all_cons, pl.1, pl.2]; rfl)) hd (star_of pl.1 _ _) (nostar _ _ pl.2)).run pins s' σ H Q I q'
end
end Dv
namespace Dv
open PySem L2 PyProof.Rows
section
variable {F : Fx} {T : Tab} {N : List Str} {sc : Scope} {k : Nat} {X : Cx} {e a b : Expr} {pos : Pos}
theorem CallR.or {f : Value} {r r' : List V → Hp → VK → Prop} (h : CallR X f r) (h' : CallR X f r') : CallR X f (fun xs H Q => r xs H Q ∨ r' xs H Q) := by
  intro pins s σ H xs us Q I rv q
  rcases q with q | q
  · exact h pins s σ H xs us Q I rv q
  · exact h' pins s σ H xs us Q I rv q
/-! ### lists of ints, of truth values, as data -/
def intsOf : List D → Option (List Int)
  | [] => some []
  | .int i :: r => (intsOf r).map (i :: ·)
  | _ :: _ => none
def blsOf : List D → Option (List Bool)
  | [] => some []
  | .bl i :: r => (blsOf r).map (i :: ·)
  | _ :: _ => none
theorem intsOf_eq : ∀ {ds : List D} {ns : List Int}, intsOf ds = some ns → ds = ns.map D.int
  | [], ns, h => by cases h; rfl
  | .int i :: r, ns, h => by
    unfold intsOf at h
    cases e : intsOf r with
    | none => rw [e] at h; cases h
    | some ms => rw [e] at h; cases h; rw [intsOf_eq e]; rfl
theorem blsOf_eq : ∀ {ds : List D} {ns : List Bool}, blsOf ds = some ns → ds = ns.map D.bl
  | [], ns, h => by cases h; rfl
  | .bl i :: r, ns, h => by
    unfold blsOf at h
    cases e : blsOf r with
    | none => rw [e] at h; cases h
    | some ms => rw [e] at h; cases h; rw [blsOf_eq e]; rfl
@[simp] theorem intsOf_map : ∀ ns : List Int, intsOf (ns.map D.int) = some ns
  | [] => rfl
  | n :: r => by simp [intsOf, intsOf_map r]
@[simp] theorem blsOf_map : ∀ ns : List Bool, blsOf (ns.map D.bl) = some ns
  | [] => rfl
  | n :: r => by simp [blsOf, blsOf_map r]
theorem rp_ints {K : Frg} {G : Hp} : ∀ {ns : List Int} {vs : List V}, RpAll K G vs (ns.map D.int) → vs = ns.map V.int
  | [], _, h => by cases h; rfl
  | n :: r, _, h => by
    cases h with
    | cons h1 h2 => cases h1; rw [rp_ints h2]; rfl
theorem rp_bls {K : Frg} {G : Hp} : ∀ {ns : List Bool} {vs : List V}, RpAll K G vs (ns.map D.bl) → vs = ns.map V.bl
  | [], _, h => by cases h; rfl
  | n :: r, _, h => by
    cases h with
    | cons h1 h2 => cases h1; rw [rp_bls h2]; rfl
theorem ints_rp {K : Frg} {G : Hp} : ∀ (ns : List Int), RpAll K G (ns.map V.int) (ns.map D.int)
  | [] => .nil
  | n :: r => .cons (.int n) (ints_rp r)
/-! ### the built-in functions -/
def lenD : D → Option D
  | .str s => if s.length ≤ sizeLine then some (.int s.length) else none
  | .tup xs => some (.int xs.length)
  | .lst xs => some (.int xs.length)
  | .scr ns => some (.int ns.length)
  | .dic ks _ => some (.int ks.length)
  | _ => none
def absD : D → Option D
  | .int i => some (.int (if i < 0 then -i else i))
  | _ => none
def intD : D → Option D
  | .int i => some (.int i)
  | .bl b => some (.int (if b then 1 else 0))
  | .str s => if s.length ≤ 640 then (PySem.intText? s).map D.int else none
  | _ => none
def tupleD : D → Option D
  | .lst xs => some (.tup xs)
  | .tup xs => some (.tup xs)
  | _ => none
def listD : D → Option D
  | .lst xs => some (.lst xs)
  | .tup xs => some (.lst xs)
  | _ => none
def sumD : D → Option D
  | .lst xs => (intsOf xs).map fun ns => .int ns.sum
  | .tup xs => (intsOf xs).map fun ns => .int ns.sum
  | _ => none
def maxI : List Int → Option Int
  | [] => none
  | n :: r => some (r.foldl max n)
def minI : List Int → Option Int
  | [] => none
  | n :: r => some (r.foldl min n)
def max1D : D → Option D
  | .lst xs => (intsOf xs).bind fun ns => (maxI ns).map D.int
  | _ => none
def min1D : D → Option D
  | .lst xs => (intsOf xs).bind fun ns => (minI ns).map D.int
  | _ => none
def max2D : D → D → Option D
  | .int i, .int j => some (.int (max i j))
  | _, _ => none
def min2D : D → D → Option D
  | .int i, .int j => some (.int (min i j))
  | _, _ => none
def maxL : List D → Option D
  | [a] => max1D a
  | [a, b] => max2D a b
  | _ => none
def minL : List D → Option D
  | [a] => min1D a
  | [a, b] => min2D a b
  | _ => none
def insI (n : Int) : List Int → List Int
  | [] => [n]
  | m :: r => if n ≤ m then n :: m :: r else m :: insI n r
def sortI : List Int → List Int
  | [] => []
  | n :: r => insI n (sortI r)
def sortedD : D → Option D
  | .lst xs => (intsOf xs).map fun ns => .lst ((sortI ns).map D.int)
  | .tup xs => (intsOf xs).map fun ns => .lst ((sortI ns).map D.int)
  | _ => none
def anyD : D → Option D
  | .lst xs => (blsOf xs).map fun bs => .bl (bs.any id)
  | .tup xs => (intsOf xs).map fun ns => .bl (ns.any fun n => n != 0)
  | _ => none
def allD : D → Option D
  | .lst xs => (blsOf xs).map fun bs => .bl (bs.all id)
  | _ => none
theorem one_op {f : D → Option D} {fr : Bool} {r : V → Hp → VK → Prop} (h : ∀ G H σ ρ O x a d (Q : VK), Er F G H σ ρ O → Vw F.K G H x a → f a = some d → Wants F G H σ ρ O fr d Q → r x H Q) : OpNg F (f1 f) fr (fun xs H Q => match xs with | [x] => r x H Q | _ => False) := by
  intro G H σ ρ O xs ds d Q E va e w
  cases va with
  | nil => cases e
  | cons v1 t =>
    cases t with
    | cons _ _ => cases e
    | nil => exact h G H σ ρ O _ _ d Q E v1 e w
theorem zip_len {α β : Type} : ∀ (as : List α) (bs : List β), as.length = bs.length → (as.zip bs).length = as.length
  | [], [], _ => rfl
  | a :: r, b :: s, h => by simp only [List.length_cons] at h; rw [List.zip_cons_cons, List.length_cons, zip_len r s (by omega), List.length_cons]
  | [], _ :: _, h => by cases h
  | _ :: _, [], h => by cases h
theorem cb_len (hK : X.K = F.K) : ∃ r, CallR X (.builtin "len") r ∧ OpNg F (f1 lenD) true r := by
  refine ⟨_, CallR.or call_len_seq (CallR.or call_len_str call_lenD), fun G H σ ρ O xs ds d Q E va e w => ?_⟩
  cases va with
  | nil => cases e
  | cons v1 t =>
    cases t with
    | cons _ _ => cases e
    | nil =>
      replace e : lenD _ = some d := e
      unfold lenD at e
      split at e
      · split at e
        · rename_i hz
          cases e
          exact .inr (.inl ⟨_, by rw [v1.str'], hz, w _ _ _ _ E strf rv_int⟩)
        · cases e
      · cases e
        obtain ⟨p, xs, rfl, h1, h2⟩ := v1.tup'
        exact .inl ⟨p, xs, rfl, .inr (by rw [hK]; exact sqT_up E.gh h1), by rw [h2.length]; exact w _ _ _ _ E strf rv_int⟩
      · cases e
        obtain ⟨p, xs, rfl, h1, h2⟩ := v1.lst' E.gh
        exact .inl ⟨p, xs, rfl, .inl (.inl (.inl h1)), by rw [h2.length]; exact w _ _ _ _ E strf rv_int⟩
      · cases e
        obtain ⟨p, rfl, h1⟩ := v1.scr'
        exact .inl ⟨p, _, rfl, .inl (by rw [hK]; exact E.gh.seq h1), by rw [List.length_map]; exact w _ _ _ _ E strf rv_int⟩
      · cases e
        obtain ⟨p, xs, rfl, h1, h2, h3⟩ := v1.dic' E.gh
        exact .inr (.inr ⟨p, _, rfl, h1, by rw [zip_len _ _ h2]; exact w _ _ _ _ E strf rv_int⟩)
      · cases e
theorem cb_abs : ∃ r, CallR X (.builtin "abs") r ∧ OpNg F (f1 absD) true r := by
  refine ⟨_, call_abs, fun G H σ ρ O xs ds d Q E va e w => ?_⟩
  cases va with
  | nil => cases e
  | cons v1 t =>
    cases t with
    | cons _ _ => cases e
    | nil =>
      replace e : absD _ = some d := e
      unfold absD at e
      split at e
      · cases e
        exact ⟨_, by rw [v1.int'], w _ _ _ _ E strf rv_int⟩
      · cases e
theorem cb_int : ∃ r, CallR X (.type "int") r ∧ OpNg F (f1 intD) true r := by
  refine ⟨_, CallR.or call_int1 call_int_str, fun G H σ ρ O xs ds d Q E va e w => ?_⟩
  cases va with
  | nil => cases e
  | cons v1 t =>
    cases t with
    | cons _ _ => cases e
    | nil =>
      replace e : intD _ = some d := e
      unfold intD at e
      split at e
      · cases e
        exact .inl (.inl ⟨_, by rw [v1.int'], w _ _ _ _ E strf rv_int⟩)
      · cases e
        exact .inl (.inr ⟨_, by rw [v1.bl'], w _ _ _ _ E strf rv_int⟩)
      · split at e
        · rename_i s hz
          cases e1 : PySem.intText? s with
          | none => rw [e1] at e; cases e
          | some n =>
            rw [e1] at e
            cases e
            exact .inr ⟨s, n, by rw [v1.str'], e1, hz, w _ _ _ _ E strf rv_int⟩
        · cases e
      · cases e
theorem cb_tuple (hK : X.K = F.K) : ∃ r, CallR X (.type "tuple") r ∧ OpNg F (f1 tupleD) true r := by
  refine ⟨_, call_tuple_of, fun G H σ ρ O xs ds d Q E va e w => ?_⟩
  cases va with
  | nil => cases e
  | cons v1 t =>
    cases t with
    | cons _ _ => cases e
    | nil =>
      replace e : tupleD _ = some d := e
      unfold tupleD at e
      split at e
      · cases e
        obtain ⟨p, xs, rfl, h1, h2⟩ := v1.lst' E.gh
        exact ⟨p, xs, rfl, .inl ⟨.inl (.inl h1), E.new_tup h2 w⟩⟩
      · cases e
        obtain ⟨p, xs, rfl, h1, h2⟩ := v1.tup'
        exact ⟨p, xs, rfl, .inr ⟨by rw [hK]; exact sqT_up E.gh h1, w _ _ _ _ E strf (rv_val rfl (.tup h1 h2))⟩⟩
      · cases e
theorem cb_list (hK : X.K = F.K) : ∃ r, CallR X (.type "list") r ∧ OpNg F (f1 listD) true r := by
  refine ⟨_, call_list_of, fun G H σ ρ O xs ds d Q E va e w => ?_⟩
  cases va with
  | nil => cases e
  | cons v1 t =>
    cases t with
    | cons _ _ => cases e
    | nil =>
      replace e : listD _ = some d := e
      unfold listD at e
      split at e
      · cases e
        obtain ⟨p, xs, rfl, h1, h2⟩ := v1.lst' E.gh
        exact ⟨p, xs, rfl, .inl (.inl (.inl h1)), E.new_lst h2 w⟩
      · cases e
        obtain ⟨p, xs, rfl, h1, h2⟩ := v1.tup'
        exact ⟨p, xs, rfl, .inr (by rw [hK]; exact sqT_up E.gh h1), E.new_lst h2 w⟩
      · cases e
def rSumT (K : Frg) : List V → Hp → VK → Prop := fun vs H Q => ∃ (a : Addr) (ns : List Int), vs = [V.ref a] ∧ SqT K H a (ns.map V.int) ∧ Q (.int ns.sum) H
theorem cr_sumT (hc : X.calm = true) : CallR X (.builtin "sum") (rSumT X.K) := by
  intro pins s σ H vs us Q I r h
  obtain ⟨a, ns, rfl, hs, q⟩ := h
  obtain ⟨its, rv, hl, _⟩ := I.tuple hs
  rw [Vals.ref1 r]
  obtain ⟨xs, e⟩ := rv.ints.allInts.items
  have hn : numsOf (intItems xs).toList = ns := by rw [← e]; exact rv.ints.numsOf
  rw [nums_intItems] at hn
  rw [e] at hl
  refine PySem.W.ktm_sumG (I.ok.hd hc) hl fun h' tk t' hk => ?_
  rw [preSum_eq, List.take_of_length_le (by simp), hn]
  exact ⟨.int _, H, I.kept hk, ⟨_, rfl⟩, q⟩
theorem cb_sum (hK : X.K = F.K) (hc : X.calm = true) : ∃ r, CallR X (.builtin "sum") r ∧ OpNg F (f1 sumD) true r := by
  refine ⟨_, CallR.or (cr_sum hc) (cr_sumT hc), fun G H σ ρ O xs ds d Q E va e w => ?_⟩
  cases va with
  | nil => cases e
  | cons v1 t =>
    cases t with
    | cons _ _ => cases e
    | nil =>
      replace e : sumD _ = some d := e
      unfold sumD at e
      split at e
      · rename_i xs
        cases e1 : intsOf xs with
        | none => rw [e1] at e; cases e
        | some ns =>
          rw [e1] at e
          cases e
          have e2 := intsOf_eq e1
          subst e2
          obtain ⟨p, vs, rfl, h1, h2⟩ := v1.lst' E.gh
          have e3 := rp_ints h2
          subst e3
          exact .inl ⟨p, ns, rfl, .inl (.inl h1), w _ _ _ _ E strf rv_int⟩
      · rename_i xs
        cases e1 : intsOf xs with
        | none => rw [e1] at e; cases e
        | some ns =>
          rw [e1] at e
          cases e
          have e2 := intsOf_eq e1
          subst e2
          obtain ⟨p, vs, rfl, h1, h2⟩ := v1.tup'
          have e3 := rp_ints h2
          subst e3
          exact .inr ⟨p, ns, rfl, by rw [hK]; exact sqT_up E.gh h1, w _ _ _ _ E strf rv_int⟩
      · cases e
theorem foldl_max : ∀ (r : List Int) (n : Int), (r.foldl max n = n ∨ r.foldl max n ∈ r) ∧ n ≤ r.foldl max n ∧ ∀ m ∈ r, m ≤ r.foldl max n
  | [], n => ⟨.inl rfl, Int.le_refl _, fun _ h => by cases h⟩
  | m :: r, n => by
    obtain ⟨a, b, c⟩ := foldl_max r (max n m)
    rw [List.foldl_cons]
    refine ⟨?_, by omega, fun x hx => ?_⟩
    · rcases a with a | a
      · rw [a]
        rcases Int.le_total n m with h | h
        · right; rw [Int.max_eq_right h]; exact List.mem_cons_self
        · left; exact Int.max_eq_left h
      · right; exact List.mem_cons_of_mem _ a
    · rcases List.mem_cons.mp hx with rfl | hx
      · omega
      · exact c x hx
theorem foldl_min : ∀ (r : List Int) (n : Int), (r.foldl min n = n ∨ r.foldl min n ∈ r) ∧ r.foldl min n ≤ n ∧ ∀ m ∈ r, r.foldl min n ≤ m
  | [], n => ⟨.inl rfl, Int.le_refl _, fun _ h => by cases h⟩
  | m :: r, n => by
    obtain ⟨a, b, c⟩ := foldl_min r (min n m)
    rw [List.foldl_cons]
    refine ⟨?_, by omega, fun x hx => ?_⟩
    · rcases a with a | a
      · rw [a]
        rcases Int.le_total n m with h | h
        · left; exact Int.min_eq_left h
        · right; rw [Int.min_eq_right h]; exact List.mem_cons_self
      · right; exact List.mem_cons_of_mem _ a
    · rcases List.mem_cons.mp hx with rfl | hx
      · omega
      · exact c x hx
theorem maxI_uniq {ns : List Int} {m n : Int} (e : maxI ns = some n) (h1 : m ∈ ns) (h2 : ∀ y ∈ ns, y ≤ m) : m = n := by
  cases ns with
  | nil => cases e
  | cons x r =>
    cases e
    obtain ⟨a, b, c⟩ := foldl_max r x
    have h3 : r.foldl max x ∈ x :: r := by
      rcases a with a | a
      · rw [a]; exact List.mem_cons_self
      · exact List.mem_cons_of_mem _ a
    have h4 := h2 _ h3
    rcases List.mem_cons.mp h1 with rfl | h1
    · omega
    · have := c m h1; omega
theorem minI_uniq {ns : List Int} {m n : Int} (e : minI ns = some n) (h1 : m ∈ ns) (h2 : ∀ y ∈ ns, m ≤ y) : m = n := by
  cases ns with
  | nil => cases e
  | cons x r =>
    cases e
    obtain ⟨a, b, c⟩ := foldl_min r x
    have h3 : r.foldl min x ∈ x :: r := by
      rcases a with a | a
      · rw [a]; exact List.mem_cons_self
      · exact List.mem_cons_of_mem _ a
    have h4 := h2 _ h3
    rcases List.mem_cons.mp h1 with rfl | h1
    · omega
    · have := c m h1; omega
theorem cb_max (hc : X.calm = true) : ∃ r, CallR X (.builtin "max") r ∧ OpNg F maxL true r := by
  refine ⟨_, CallR.or (call_max2 hc) (cr_max hc), fun G H σ ρ O xs ds d Q E va e w => ?_⟩
  cases va with
  | nil => cases e
  | cons v1 t =>
    cases t with
    | nil =>
      replace e : max1D _ = some d := e
      unfold max1D at e
      split at e
      · rename_i xs
        cases e1 : intsOf xs with
        | none => rw [e1] at e; cases e
        | some ns =>
          rw [e1] at e
          replace e : (maxI ns).map D.int = some d := e
          cases e4 : maxI ns with
          | none => rw [e4] at e; cases e
          | some n =>
            rw [e4] at e
            cases e
            have e2 := intsOf_eq e1
            subst e2
            obtain ⟨p, vs, rfl, h1, h2⟩ := v1.lst' E.gh
            have e3 := rp_ints h2
            subst e3
            refine .inr ⟨p, ns, rfl, .inl (.inl h1), ?_, fun m m1 m2 => ?_⟩
            · cases ns with
              | nil => cases e4
              | cons _ _ => exact Nat.succ_pos _
            · rw [maxI_uniq e4 m1 m2]
              exact w _ _ _ _ E strf rv_int
      · cases e
    | cons v2 t =>
      cases t with
      | cons _ _ => cases e
      | nil =>
        replace e : max2D _ _ = some d := e
        unfold max2D at e
        split at e
        · rename_i i j
          cases e
          refine .inl ⟨i, j, by rw [v1.int', v2.int'], ?_⟩
          have : (if j > i then j else i) = max i j := by split <;> omega
          rw [this]
          exact w _ _ _ _ E strf rv_int
        · cases e
theorem cb_min (hc : X.calm = true) : ∃ r, CallR X (.builtin "min") r ∧ OpNg F minL true r := by
  refine ⟨_, CallR.or (call_min2 hc) (cr_min hc), fun G H σ ρ O xs ds d Q E va e w => ?_⟩
  cases va with
  | nil => cases e
  | cons v1 t =>
    cases t with
    | nil =>
      replace e : min1D _ = some d := e
      unfold min1D at e
      split at e
      · rename_i xs
        cases e1 : intsOf xs with
        | none => rw [e1] at e; cases e
        | some ns =>
          rw [e1] at e
          replace e : (minI ns).map D.int = some d := e
          cases e4 : minI ns with
          | none => rw [e4] at e; cases e
          | some n =>
            rw [e4] at e
            cases e
            have e2 := intsOf_eq e1
            subst e2
            obtain ⟨p, vs, rfl, h1, h2⟩ := v1.lst' E.gh
            have e3 := rp_ints h2
            subst e3
            refine .inr ⟨p, ns, rfl, .inl (.inl h1), ?_, fun m m1 m2 => ?_⟩
            · cases ns with
              | nil => cases e4
              | cons _ _ => exact Nat.succ_pos _
            · rw [minI_uniq e4 m1 m2]
              exact w _ _ _ _ E strf rv_int
      · cases e
    | cons v2 t =>
      cases t with
      | cons _ _ => cases e
      | nil =>
        replace e : min2D _ _ = some d := e
        unfold min2D at e
        split at e
        · rename_i i j
          cases e
          refine .inl ⟨i, j, by rw [v1.int', v2.int'], ?_⟩
          have : (if j < i then j else i) = min i j := by split <;> omega
          rw [this]
          exact w _ _ _ _ E strf rv_int
        · cases e
theorem insI_perm (n : Int) : ∀ l : List Int, (insI n l).Perm (n :: l)
  | [] => .refl _
  | m :: r => by
    unfold insI
    split
    · exact .refl _
    · exact ((insI_perm n r).cons m).trans (List.Perm.swap ..)
theorem insI_pw (n : Int) : ∀ l : List Int, l.Pairwise (· ≤ ·) → (insI n l).Pairwise (· ≤ ·)
  | [], _ => List.pairwise_singleton ..
  | m :: r, h => by
    unfold insI
    rw [List.pairwise_cons] at h
    split
    · rename_i hm
      rw [List.pairwise_cons]
      refine ⟨fun x hx => ?_, List.pairwise_cons.mpr h⟩
      rcases List.mem_cons.mp hx with rfl | hx
      · exact hm
      · exact Int.le_trans hm (h.1 x hx)
    · rename_i hm
      rw [List.pairwise_cons]
      refine ⟨fun x hx => ?_, insI_pw n r h.2⟩
      rcases List.mem_cons.mp ((insI_perm n r).mem_iff.mp hx) with rfl | hx
      · omega
      · exact h.1 x hx
theorem sortI_perm : ∀ l : List Int, (sortI l).Perm l
  | [] => .refl _
  | n :: r => (insI_perm n _).trans ((sortI_perm r).cons n)
theorem sortI_pw : ∀ l : List Int, (sortI l).Pairwise (· ≤ ·)
  | [] => List.Pairwise.nil
  | n :: r => insI_pw n _ (sortI_pw r)
theorem cb_sorted (hK : X.K = F.K) : ∃ r, CallR X (.builtin "sorted") r ∧ OpNg F (f1 sortedD) true r := by
  refine ⟨_, cr_sortBoth, fun G H σ ρ O xs ds d Q E va e w => ?_⟩
  cases va with
  | nil => cases e
  | cons v1 t =>
    cases t with
    | cons _ _ => cases e
    | nil =>
      replace e : sortedD _ = some d := e
      unfold sortedD at e
      split at e
      · rename_i xs
        cases e1 : intsOf xs with
        | none => rw [e1] at e; cases e
        | some ns =>
          rw [e1] at e
          cases e
          have e2 := intsOf_eq e1
          subst e2
          obtain ⟨p, vs, rfl, h1, h2⟩ := v1.lst' E.gh
          have e3 := rp_ints h2
          subst e3
          refine .inl ⟨p, ns, rfl, .inl (.inl h1), fun ns' p' hp hw hn => ?_⟩
          have e5 : ns' = sortI ns := PySem.W.ksm_same (hp.trans (sortI_perm ns).symm) hw (sortI_pw ns)
          subst e5
          exact E.new_lst (ints_rp _) w p' hn
      · rename_i xs
        cases e1 : intsOf xs with
        | none => rw [e1] at e; cases e
        | some ns =>
          rw [e1] at e
          cases e
          have e2 := intsOf_eq e1
          subst e2
          obtain ⟨p, vs, rfl, h1, h2⟩ := v1.tup'
          have e3 := rp_ints h2
          subst e3
          refine .inr ⟨p, ns, rfl, by rw [hK]; exact sqT_up E.gh h1, fun ns' p' hp hw hn => ?_⟩
          have e5 : ns' = sortI ns := PySem.W.ksm_same (hp.trans (sortI_perm ns).symm) hw (sortI_pw ns)
          subst e5
          exact E.new_lst (ints_rp _) w p' hn
      · cases e
theorem ints_at {us : List Value} {ns : List Int} (h : IntsAre us ns) : ∀ (i : Nat) (v : Value), us[i]? = some v → ∃ n t, ns[i]? = some n ∧ v = .int n t := by
  induction h with
  | nil => intro i v e; simp at e
  | cons n t h ih =>
    intro i v e
    cases i with
    | zero =>
      simp at e
      subst e
      exact ⟨n, t, rfl, rfl⟩
    | succ i =>
      obtain ⟨m, t, h1, h2⟩ := ih i v (by simpa using e)
      exact ⟨m, t, by simpa using h1, h2⟩
theorem cr_anyT (hc : X.calm = true) : CallR X (.builtin "any") (fun xs H Q => ∃ (a : Addr) (ns : List Int), xs = [.ref a] ∧ SqT X.K H a (ns.map V.int) ∧ Q (.bl (ns.any fun n => n != 0)) H) := by
  intro pins s σ H vs us Q I r h
  obtain ⟨a, ns, rfl, hs, q⟩ := h
  obtain ⟨its, rv, ht, _⟩ := I.tuple hs
  rw [Vals.ref1 r]
  have hi : IntsAre its ns := rv.ints
  have hlen : its.length = ns.length := by rw [← rv.length, List.length_map]
  have hlt : a < s.heap.objs.size := by obtain ⟨_, e, _⟩ := ht; exact Heap.lt_size e
  refine call_any_walk (wpAny_pyIter_tuple ht ?_)
  refine ⟨_, _, _, _, _, _, (fun i => (ns.map fun n => n != 0).getD i false), rfl, Walks.tuple (A := X.A.in1) (I.ok.hd hc) _ a (Nat.ne_of_lt hlt) its.toArray, ⟨⟨_, Heap.get?_push_size _ rfl, rfl, rfl⟩, ht.push _⟩, fun i v s Q E hv hq => ?_, fun h' tk hk => ?_⟩
  · have hv' : its[i]? = some v := by simpa using hv
    obtain ⟨n, t, h1, rfl⟩ := ints_at hi i v hv'
    have hg : (ns.map fun n => n != 0).getD i false = (n != 0) := by
      rw [List.getD_eq_getElem?_getD, List.getElem?_map, h1]
      rfl
    have hq' : Q ((ns.map fun n => n != 0).getD i false) s := hq
    rw [hg] at hq'
    exact truthy_int hq'
  · refine ⟨.bl _, H, I.kept fun b o eo => hk b o (fun hmem => ?_) (Heap.get?_push_of_some _ eo), ?_, q⟩
    · rcases List.mem_cons.mp hmem with e1 | hmem
      · exact absurd (e1 ▸ Heap.lt_size eo) (Nat.lt_irrefl _)
      · cases hmem
    · show Value.bool _ = Value.bool _
      have ea := L2.any_range (ns.map fun n => n != 0)
      rw [List.length_map, ← hlen, ← List.size_toArray, List.any_map] at ea
      exact congrArg Value.bool ea
theorem cb_any (hK : X.K = F.K) (hc : X.calm = true) : ∃ r, CallR X (.builtin "any") r ∧ OpNg F (f1 anyD) true r := by
  refine ⟨_, CallR.or (cr_any hc) (cr_anyT hc), fun G H σ ρ O xs ds d Q E va e w => ?_⟩
  cases va with
  | nil => cases e
  | cons v1 t =>
    cases t with
    | cons _ _ => cases e
    | nil =>
      replace e : anyD _ = some d := e
      unfold anyD at e
      split at e
      · rename_i xs
        cases e1 : blsOf xs with
        | none => rw [e1] at e; cases e
        | some ns =>
          rw [e1] at e
          cases e
          have e2 := blsOf_eq e1
          subst e2
          obtain ⟨p, vs, rfl, h1, h2⟩ := v1.lst' E.gh
          have e3 := rp_bls h2
          subst e3
          exact .inl ⟨p, ns, rfl, .inl (.inl h1), w _ _ _ _ E strf rv_bl⟩
      · rename_i xs
        cases e1 : intsOf xs with
        | none => rw [e1] at e; cases e
        | some ns =>
          rw [e1] at e
          cases e
          have e2 := intsOf_eq e1
          subst e2
          obtain ⟨p, vs, rfl, h1, h2⟩ := v1.tup'
          have e3 := rp_ints h2
          subst e3
          exact .inr ⟨p, ns, rfl, by rw [hK]; exact sqT_up E.gh h1, w _ _ _ _ E strf rv_bl⟩
      · cases e
theorem cb_all (hc : X.calm = true) : ∃ r, CallR X (.builtin "all") r ∧ OpNg F (f1 allD) true r := by
  refine ⟨_, cr_all hc, fun G H σ ρ O xs ds d Q E va e w => ?_⟩
  cases va with
  | nil => cases e
  | cons v1 t =>
    cases t with
    | cons _ _ => cases e
    | nil =>
      replace e : allD _ = some d := e
      unfold allD at e
      split at e
      · rename_i xs
        cases e1 : blsOf xs with
        | none => rw [e1] at e; cases e
        | some ns =>
          rw [e1] at e
          cases e
          have e2 := blsOf_eq e1
          subst e2
          obtain ⟨p, vs, rfl, h1, h2⟩ := v1.lst' E.gh
          have e3 := rp_bls h2
          subst e3
          exact ⟨p, ns, rfl, .inl (.inl h1), w _ _ _ _ E strf rv_bl⟩
      · cases e
/-- a call of a built-in function, of a built-in type -/
theorem e_cb {x : Str} {id : String} {p : Pos} {es : List Expr} {os : List Opd} {ts : List TE} {f : List D → Option D} {r : List V → Hp → VK → Prop} (o : Xo F T N sc k X) (hf : x ∈ T.free) (hv : bootBuiltins x = some (.builtin id)) (gl : Gl X x)
    (hc : CallR X (.builtin id) r) (hr : OpNg F f true r) (h : Ops F X es os ts) (pl : es.all plainE = true) (ne : es ≠ []) (hn : x ≠ "__name__") (hd : (x == ("__debug__" : Str)) = false) : PE X (.Call (.Name x p) es [] pos) (rdE F (opM f os) true) := by
  cases es with
  | nil => exact absurd rfl ne
  | cons e1 es =>
    have pl' := pl
    rw [List.all_cons, Bool.and_eq_true] at pl
    exact peI (pe_callB hc gl (o.free x hf) hv (pa_list h pl') hn hd (star_of pl.1 _ _) (nostar _ _ pl.2)) fun σ H Q q => opN_rd h hr q
theorem e_ct {x : Str} {id : String} {p : Pos} {es : List Expr} {os : List Opd} {ts : List TE} {f : List D → Option D} {r : List V → Hp → VK → Prop} (o : Xo F T N sc k X) (hf : x ∈ T.free) (hv : bootBuiltins x = some (.type id)) (gl : Gl X x)
    (hc : CallR X (.type id) r) (hr : OpNg F f true r) (h : Ops F X es os ts) (pl : es.all plainE = true) (ne : es ≠ []) (hn : x ≠ "__name__") (hd : (x == ("__debug__" : Str)) = false) : PE X (.Call (.Name x p) es [] pos) (rdE F (opM f os) true) := by
  cases es with
  | nil => exact absurd rfl ne
  | cons e1 es =>
    have pl' := pl
    rw [List.all_cons, Bool.and_eq_true] at pl
    exact peI (pe_callTy hc gl (o.free x hf) hv (pa_list h pl') hn hd (star_of pl.1 _ _) (nostar _ _ pl.2)) fun σ H Q q => opN_rd h hr q
end
end Dv
namespace Dv
open PySem L2 PyProof.Rows
section
variable {F : Fx} {T : Tab} {N : List Str} {sc : Scope} {k : Nat} {X : Cx} {e a b : Expr} {pos : Pos}
/-! ### isinstance(x, T) -/
def tyS : D → String
  | .non => "NoneType" | .bl _ => "bool" | .int _ => "int" | .str _ => "str" | .tup _ => "tuple" | .lst _ => "list" | .dic _ _ => "dict" | .scr _ => "list"
def isiTypes : List String := ["int", "bool", "str", "tuple", "list", "dict"]
def isiB (T : String) (d : D) : Bool := tyS d == T || (tyS d == "bool" && T == "int")
def isiD (T : String) (d : D) : Option D := some (.bl (isiB T d))
theorem kitB_ok {T : String} (hT : T ∈ isiTypes) (d : D) : kitB (tyS d) T = some (isiB T d) := by
  have h : T = "int" ∨ T = "bool" ∨ T = "str" ∨ T = "tuple" ∨ T = "list" ∨ T = "dict" := by simpa [isiTypes] using hT
  rcases h with rfl | rfl | rfl | rfl | rfl | rfl <;> cases d <;> (unfold isiB; simp only [tyS]; decide +kernel)
theorem ty_of {K : Frg} {H : Hp} {v : V} {d : D} (r : Rp K H v d) : TyX K H v (.type (tyS d)) := by
  cases r with
  | non => exact .base .non
  | bl b => exact .base (.bl b)
  | int b => exact .base (.int b)
  | str b => exact .base (.str b)
  | lst h _ => exact .base (.lst h)
  | dic h _ _ => exact .base (.dK h)
  | tup h _ =>
    rcases h with (h | ⟨o, h⟩) | ⟨o, its, n, h, hc, _⟩
    · exact .base (.tup h)
    · exact .fTuple h
    · exact .kTuple h hc
  | scr h =>
    rcases h with (h | ⟨o, h⟩) | ⟨o, its, n, h, hc, _⟩
    · exact .base (.lst h)
    · exact .base (.frz h)
    · exact .kList h hc
theorem e_isi {x tn : Str} {ty : String} {o : Opd} {t : TE} {p p2 : Pos} (xo : Xo F T N sc k X) (hx : x ∈ T.free) (hv : bootBuiltins x = some (.builtin "isinstance")) (gl : Gl X x) (hn : x ≠ "__name__") (hd : (x == ("__debug__" : Str)) = false)
    (ht : tn ∈ T.free) (hvt : bootBuiltins tn = some (.type ty)) (glt : Gl X tn) (hnt : tn ≠ "__name__") (hdt : (tn == ("__debug__" : Str)) = false) (hty : ty ∈ isiTypes) (h : Op1 F X a o t) (pl : plainE a = true) :
    PE X (.Call (.Name x p) [a, .Name tn p2] [] pos) (rdE F (opM (f1 (isiD ty)) [o]) true) := by
  have hc : PE X (.Name tn p2) (tC (.ty ty)) := pe_bltn glt (xo.free tn ht) hvt rfl hnt hdt
  have pa : PA X [a, .Name tn p2] (tCons t (tCons (tC (.ty ty)) tNil)) := pa_cons h.pe (pa_cons hc pa_nil) (star_of pl _ _)
  refine peI (pe_callB call_isi gl (xo.free x hx) hv pa hn hd (star_of pl _ _) rfl) fun σ H Q q => ?_
  show t σ H fun x1 H1 => rIsi X.K [x1, .ty ty] H1 Q
  have := opN_rd (r := fun xs H Q => match xs with | [x1] => rIsi X.K [x1, .ty ty] H Q | _ => False) (.cons h .nil) ?_ q
  · exact this
  intro G H σ ρ O xs ds d Q E va e w
  cases va with
  | nil => cases e
  | cons v1 t =>
    cases t with
    | cons _ _ => cases e
    | nil =>
      replace e : isiD ty _ = some d := e
      cases e
      exact ⟨_, _, _, _, _, rfl, .ty ty, by rw [xo.hK]; exact ty_of (v1.rp E.gh), kit_ty (kitB_ok hty _), w _ _ _ _ E strf rv_bl⟩

/-! ### methods of built-in types -/
/-- sep.join(xs), s a text -/
def strsOf : List D → Option (List Str)
  | [] => some []
  | .str i :: r => (strsOf r).map (i :: ·)
  | _ :: _ => none
theorem strsOf_eq : ∀ {ds : List D} {ns : List Str}, strsOf ds = some ns → ds = ns.map D.str
  | [], ns, h => by cases h; rfl
  | .str i :: r, ns, h => by
    unfold strsOf at h
    cases e : strsOf r with
    | none => rw [e] at h; cases h
    | some ms => rw [e] at h; cases h; rw [strsOf_eq e]; rfl
@[simp] theorem strsOf_map : ∀ ns : List Str, strsOf (ns.map D.str) = some ns
  | [] => rfl
  | n :: r => by simp [strsOf, strsOf_map r]
theorem rp_strs {K : Frg} {G : Hp} : ∀ {ns : List Str} {vs : List V}, RpAll K G vs (ns.map D.str) → vs = ns.map V.str
  | [], _, h => by cases h; rfl
  | n :: r, _, h => by
    cases h with
    | cons h1 h2 => cases h1; rw [rp_strs h2]; rfl
def joinB (a : Str) (xs : List D) : Option D := (strsOf xs).bind fun ys => if (ys.map (·.length)).sum + ys.length * a.length ≤ 16777216 then some (.str (Txt.join a ys)) else none
def joinD : D → D → Option D
  | .str a, .lst xs => joinB a xs
  | .str a, .tup xs => joinB a xs
  | _, _ => none
def plainBase : Expr → Bool
  | .Name _ _ => true
  | .Constant _ _ _ => true
  | .Attribute _ _ _ => true
  | .Subscript _ _ _ => true
  | _ => false
theorem base_of {o : Expr} {m : Str} {env : PySem.Env} (h : plainBase o = true) : attributeBase o m env (eval o env) = eval o env := by
  cases o <;> first | rfl | cases h
end
end Dv
/-! zip of two sequences, each a list or a tuple -/
namespace Dv
open PySem PySem.Spec PyProof.Rows L2
/-- an iterator of a class, at place i of what stands at l -/
def ItC (c : String) (h : Heap) (a l : Addr) (i : Nat) : Prop := ∃ o, h.get? a = some o ∧ o.cls = .type c ∧ o.data = .fields #[.ref l, .int i 0]
theorem ItC.ext {c : String} {h h' : Heap} {a b l : Addr} {i : Nat} (x : ItC c h a l i) (hs : Heap.ExtBut b h h') (n : a ≠ b) : ItC c h' a l i := let ⟨o, e, r⟩ := x; ⟨o, hs _ _ n e, r⟩
theorem ItC.keep {c : String} {h h' : Heap} {a l : Addr} {i : Nat} (x : ItC c h a l i) (k : ∀ o, h.get? a = some o → h'.get? a = some o) : ItC c h' a l i := let ⟨o, e, r⟩ := x; ⟨o, k o e, r⟩
theorem ItC.lt {c : String} {h : Heap} {a l : Addr} {i : Nat} (x : ItC c h a l i) : a < h.objs.size := let ⟨_, e, _⟩ := x; Heap.lt_size e
/-- a kind of sequence that is walked by places -/
structure Sd where
  cls : String
  Sq : Heap → Addr → Array Value → Prop
  V : PySem.W.Frag → Hp → Addr → List L2.V → Prop
  ext : ∀ {h h' : Heap} {a b : Addr} {xs : Array Value}, Sq h a xs → Heap.ExtBut b h h' → a ≠ b → Sq h' a xs
  push : ∀ {h : Heap} {a : Addr} {xs : Array Value} (o : Obj), Sq h a xs → Sq (h.push o) a xs
  lt : ∀ {h : Heap} {a : Addr} {xs : Array Value}, Sq h a xs → a < h.objs.size
  iter : ∀ {prog : Program} {w : World} {A : Around} {E : Value → Shared → Prop} {s : Shared} {l : Addr} {xs : Array Value} {Q : Value → Shared → Prop}, Sq s.heap l xs →
    Q (.ref s.heap.objs.size) { s with heap := s.heap.push { cls := .type cls, data := .fields #[.ref l, .int 0 0] } } → wpAny (model prog w) A (pyIter (.ref l)) Q E s
  item : ∀ {prog : Program} {w : World} {A : Around} {E : Value → Shared → Prop} {s : Shared} {it l : Addr} {i : Nat} {xs : Array Value} {x : Value} {Q : Value → Shared → Prop}, ItC cls s.heap it l i → Sq s.heap l xs → xs[i]? = some x →
    (∀ h', ItC cls h' it l (i + 1) → Heap.SameBut it s.heap h' → Q x { s with heap := h' }) → wpAny (model prog w) A (Builtin.SmallTypes.nextOf (.ref it)) Q E s
  fin : ∀ {prog : Program} {w : World} {A : Around} {E : Value → Shared → Prop} {s : Shared} {it l : Addr} {i : Nat} {xs : Array Value} {Q : Value → Shared → Prop}, A.handled = none → ItC cls s.heap it l i → Sq s.heap l xs → xs[i]? = none →
    (∀ h' e, Heap.ExtBut it s.heap h' → (∃ o, h'.get? e = some o ∧ o.cls = .type "StopIteration") → E (.ref e) { s with heap := h' }) → wpAny (model prog w) A (Builtin.SmallTypes.nextOf (.ref it)) Q E s
  inv : ∀ {X : Cx} {pins : List (Addr × Obj)} {σ : L2.St} {H : Hp} {s : Shared} {a : Addr} {xs : List L2.V}, Inv X pins σ H s → V X.K H a xs → ∃ its : List Value, Vals xs its ∧ Sq s.heap a its.toArray
  inj : ∀ {X : Cx} {pins : List (Addr × Obj)} {σ : L2.St} {H : Hp} {s : Shared} {a : Addr} {xs ys : List L2.V}, Inv X pins σ H s → V X.K H a xs → V X.K H a ys → xs = ys
def sdT : Sd where
  cls := "tuple_iterator"
  Sq := fun h a xs => h.IsTuple a xs
  V := SqT
  ext := fun x hs n => x.extBut hs n
  push := fun o x => x.push o
  lt := fun x => let ⟨_, e, _⟩ := x; Heap.lt_size e
  iter := fun x h => wpAny_pyIter_tuple x h
  item := fun hit hl hx hQ => RZ.nextOf_tuple_item hit hl hx hQ
  fin := fun hh hit hl hx hE => RZ.nextOf_tuple_end hh hit hl hx hE
  inv := fun I h => let ⟨its, r, p, _⟩ := I.tuple h; ⟨its, r, p⟩
  inj := fun I h h' => I.tuple_inj h h'
def sdL : Sd where
  cls := "list_iterator"
  Sq := fun h a xs => h.IsList a xs
  V := SqL
  ext := fun x hs n => x.extBut hs n
  push := fun o x => x.push o
  lt := fun x => let ⟨_, e, _⟩ := x; Heap.lt_size e
  iter := fun x h => wpAny_pyIter_list x h
  item := fun hit hl hx hQ => wpAny_nextOf_list_item hit hl hx hQ
  fin := fun hh hit hl hx hE => wpAny_nextOf_list_end hh hit hl hx hE
  inv := fun I h => let ⟨its, r, p, _⟩ := I.list h; ⟨its, r, p.isList⟩
  inj := fun I h h' => I.list_inj h h'
section
variable (S R : Sd)
section
variable {prog : Program} {w : World} {A : Around} {E : Value → Shared → Prop} {s : Shared}
/-- how the pair's object and the two walks stand -/
structure ZpAt (h : Heap) (z TI TO i1 i2 l1 l2 : Addr) (k : Nat) (a b : Value) : Prop where
  z : IsZip h z TI TO .none
  ti : IsPair h TI (.ref i1) (.ref i2)
  to : IsPair h TO a b
  i1 : ItC S.cls h i1 l1 k
  i2 : ItC R.cls h i2 l2 k
theorem zm_item {z TI TO i1 i2 l1 l2 : Addr} {k : Nat} {xs ys : Array Value} {x y a b : Value} {Q : Value → Shared → Prop} (D : ZipApart z TI TO i1 i2 l1 l2) (Z : ZpAt S R s.heap z TI TO i1 i2 l1 l2 k a b)
    (hl1 : S.Sq s.heap l1 xs) (hl2 : R.Sq s.heap l2 ys) (hx : xs[k]? = some x) (hy : ys[k]? = some y)
    (hQ : ∀ h', IsZip h' z TI TO (rawInt s.heap.objs.size) → IsPair h' TO x y → ItC S.cls h' i1 l1 (k + 1) → ItC R.cls h' i2 l2 (k + 1) → IsPair h' s.heap.objs.size x y → h'.objs.size = s.heap.objs.size + 1 →
      (∀ c o, c ≠ z → c ≠ TO → c ≠ i1 → c ≠ i2 → s.heap.get? c = some o → h'.get? c = some o) → Q (.ref s.heap.objs.size) { s with heap := h' }) :
    wpAny (model prog w) A (Builtin.«zip.__next__» ⟨[.ref z], []⟩) (fun fin s' => ∃ v, fin = .done (.ret v) ∧ Q v s') E s := by
  obtain ⟨hz, hTI, hTO, h1, h2⟩ := Z
  show wpAny _ _ (field (.ref z) 2 >>= _) _ _ _
  refine wpAny_bind (wpAny_field hz rfl (x := .bool false) rfl ?_)
  show wpAny _ _ (field (.ref z) 3 >>= _) _ _ _
  refine wpAny_bind (wpAny_field hz rfl (x := .ref TI) rfl ?_)
  refine wpAny_bind (wpAny_seqItems hTI rfl ?_)
  show wpAny _ _ (Builtin.SmallTypes.ownedTupleIsFree (.ref z) >>= _) _ _ _
  refine wpAny_bind ?_
  unfold Builtin.SmallTypes.ownedTupleIsFree
  refine wpAny_bind (wpAny_field hz rfl (x := .none) rfl (wpAny_pure ?_))
  simp only [if_true]
  refine wpAny_bind (wpAny_rule ?_)
  refine wpAny_bind (wpAny_field hz rfl (x := .ref TO) rfl ?_)
  refine wpAny_bind (wpAny_setField_rec hz (by simp) fun h₁ hz₁ hs₁ => ?_)
  replace hz₁ : IsZip h₁ z TI TO .ellipsis := hz₁
  refine wpAny_bind ?_
  simp only [List.zipIdx_cons, List.zipIdx_nil, List.forIn_cons, List.forIn_nil]
  refine wpAny_bind (wpAny_bind (wpAny_onRaise ?_))
  show wpAny _ _ (Builtin.SmallTypes.nextOf (.ref i1) >>= _) _ _ _
  refine wpAny_bind (S.item (h1.ext hs₁.extBut D.i1z) (S.ext hl1 hs₁.extBut D.l1z) hx fun h₂ g1 hs₂ => wpAny_pure ?_)
  have t2 : IsPair h₂ TO a b := hs₂.extBut _ _ D.TOi1 (hs₁.extBut _ _ D.TOz hTO)
  refine wpAny_bind (wpAny_seqItems t2 rfl ?_)
  refine wpAny_bind (wpAny_updateSeq_pair t2 fun h₃ t3 hs₃ => ?_)
  replace t3 : IsPair h₃ TO x b := t3
  refine wpAny_bind (wpAny_letGo (wpAny_pure ?_))
  refine wpAny_bind (wpAny_bind (wpAny_onRaise ?_))
  show wpAny _ _ (Builtin.SmallTypes.nextOf (.ref i2) >>= _) _ _ _
  refine wpAny_bind (R.item (((h2.ext hs₁.extBut D.i2z).ext hs₂.extBut D.i12.symm).ext hs₃.extBut D.TOi2.symm)
    (R.ext (R.ext (R.ext hl2 hs₁.extBut D.l2z) hs₂.extBut D.l2i1) hs₃.extBut D.l2TO) hy fun h₄ g2 hs₄ => wpAny_pure ?_)
  have t4 : IsPair h₄ TO x b := hs₄.extBut _ _ D.TOi2 t3
  refine wpAny_bind (wpAny_seqItems t4 rfl ?_)
  refine wpAny_bind (wpAny_updateSeq_pair t4 fun h₅ t5 hs₅ => ?_)
  replace t5 : IsPair h₅ TO x y := t5
  refine wpAny_bind (wpAny_letGo (wpAny_pure (wpAny_pure ?_)))
  refine wpAny_bind (wpAny_seqItems t5 rfl ?_)
  refine wpAny_bind (wpAny_newTuple ?_)
  have hsz : h₅.objs.size = s.heap.objs.size := by rw [hs₅.1, hs₄.1, hs₃.1, hs₂.1, hs₁.1]
  have z5 : IsZip h₅ z TI TO .ellipsis := hs₅.extBut _ _ D.TOz.symm (hs₄.extBut _ _ D.i2z.symm (hs₃.extBut _ _ D.TOz.symm (hs₂.extBut _ _ D.i1z.symm hz₁)))
  have k5 : ∀ c o, c ≠ z → c ≠ TO → c ≠ i1 → c ≠ i2 → s.heap.get? c = some o → h₅.get? c = some o := fun c o c1 c2 c3 c4 e =>
    hs₅.extBut _ _ c2 (hs₄.extBut _ _ c4 (hs₃.extBut _ _ c2 (hs₂.extBut _ _ c3 (hs₁.extBut _ _ c1 e))))
  have g1' : ItC S.cls h₅ i1 l1 (k + 1) := ((g1.ext hs₃.extBut D.TOi1.symm).ext hs₄.extBut D.i12).ext hs₅.extBut D.TOi1.symm
  have g2' : ItC R.cls h₅ i2 l2 (k + 1) := g2.ext hs₅.extBut D.TOi2.symm
  have zlt : z < h₅.objs.size := Heap.lt_size z5
  show wpAny _ _ (Builtin.SmallTypes.ownedTupleHandOut (.ref z) (.ref h₅.objs.size) >>= _) _ _ _
  refine wpAny_bind ?_
  unfold Builtin.SmallTypes.ownedTupleHandOut
  have z6 : IsZip (h₅.push { cls := .type "tuple", data := .seq #[x, y] }) z TI TO .ellipsis := Heap.get?_push_of_some _ z5
  refine wpAny_bind (wpAny_setField_rec z6 (by simp) fun h₇ z7 hs₇ => ?_)
  replace z7 : IsZip h₇ z TI TO (rawInt h₅.objs.size) := z7
  refine wpAny_setField_rec z7 (by simp) fun h₈ z8 hs₈ => ?_
  replace z8 : IsZip h₈ z TI TO (rawInt h₅.objs.size) := z8
  have up : ∀ c o, c ≠ z → h₅.get? c = some o → h₈.get? c = some o := fun c o c1 e => hs₈.extBut _ _ c1 (hs₇.extBut _ _ c1 (Heap.get?_push_of_some _ e))
  have t8 : IsPair h₈ h₅.objs.size x y := hs₈.extBut _ _ (Nat.ne_of_gt zlt) (hs₇.extBut _ _ (Nat.ne_of_gt zlt) (Heap.get?_push_size _ rfl))
  have sz8 : h₈.objs.size = h₅.objs.size + 1 := by rw [hs₈.1, hs₇.1, Heap.size_push]
  rw [hsz] at z8 t8 sz8
  refine wpAny_pure ⟨_, rfl, ?_⟩
  show Q (.ref h₅.objs.size) _
  rw [hsz]
  exact hQ h₈ z8 (up _ _ D.TOz t5) (g1'.keep fun o e => up _ o D.i1z e) (g2'.keep fun o e => up _ o D.i2z e) t8 sz8 fun c o c1 c2 c3 c4 e => up c o c1 (k5 c o c1 c2 c3 c4 e)
theorem zm_end {z TI TO i1 i2 l1 l2 : Addr} {k : Nat} {xs ys : Array Value} {a b : Value} {Q : Fin → Shared → Prop} (hh : A.handled = none) (D : ZipApart z TI TO i1 i2 l1 l2) (Z : ZpAt S R s.heap z TI TO i1 i2 l1 l2 k a b)
    (hl1 : S.Sq s.heap l1 xs) (hl2 : R.Sq s.heap l2 ys) (hend : xs[k]? = none ∨ ys[k]? = none)
    (hE : ∀ h' e, (∀ c o, c ≠ z → c ≠ TO → c ≠ i1 → c ≠ i2 → s.heap.get? c = some o → h'.get? c = some o) → (∃ o, h'.get? e = some o ∧ o.cls = .type "StopIteration") → E (.ref e) { s with heap := h' }) :
    wpAny (model prog w) A (Builtin.«zip.__next__» ⟨[.ref z], []⟩) Q E s := by
  obtain ⟨hz, hTI, hTO, h1, h2⟩ := Z
  show wpAny _ _ (field (.ref z) 2 >>= _) _ _ _
  refine wpAny_bind (wpAny_field hz rfl (x := .bool false) rfl ?_)
  show wpAny _ _ (field (.ref z) 3 >>= _) _ _ _
  refine wpAny_bind (wpAny_field hz rfl (x := .ref TI) rfl ?_)
  refine wpAny_bind (wpAny_seqItems hTI rfl ?_)
  show wpAny _ _ (Builtin.SmallTypes.ownedTupleIsFree (.ref z) >>= _) _ _ _
  refine wpAny_bind ?_
  unfold Builtin.SmallTypes.ownedTupleIsFree
  refine wpAny_bind (wpAny_field hz rfl (x := .none) rfl (wpAny_pure ?_))
  simp only [if_true]
  refine wpAny_bind (wpAny_rule ?_)
  refine wpAny_bind (wpAny_field hz rfl (x := .ref TO) rfl ?_)
  refine wpAny_bind (wpAny_setField_rec hz (by simp) fun h₁ hz₁ hs₁ => ?_)
  replace hz₁ : IsZip h₁ z TI TO .ellipsis := hz₁
  refine wpAny_bind ?_
  simp only [List.zipIdx_cons, List.zipIdx_nil, List.forIn_cons, List.forIn_nil]
  refine wpAny_bind (wpAny_bind (wpAny_onRaise ?_))
  show wpAny _ _ (Builtin.SmallTypes.nextOf (.ref i1) >>= _) _ _ _
  cases hx : xs[k]? with
  | none =>
    refine wpAny_bind (S.fin hh (h1.ext hs₁.extBut D.i1z) (S.ext hl1 hs₁.extBut D.l1z) hx fun h₂ e hs₂ he => ?_)
    obtain ⟨oe, hoe, hce⟩ := he
    have hz₂ : IsZip h₂ z TI TO .ellipsis := hs₂ _ _ D.i1z.symm hz₁
    have hez : e ≠ z := fun x => by subst x; rw [hz₂] at hoe; cases hoe; simp at hce
    exact wpAny_setField_rec hz₂ (by simp) fun h₃ _ hs₃ => hE h₃ e (fun c o c1 _ c3 _ x => hs₃.extBut _ _ c1 (hs₂ _ _ c3 (hs₁.extBut _ _ c1 x))) ⟨oe, hs₃.extBut _ _ hez hoe, hce⟩
  | some x =>
    have hy : ys[k]? = none := by rcases hend with h | h; rw [hx] at h; cases h; exact h
    refine wpAny_bind (S.item (h1.ext hs₁.extBut D.i1z) (S.ext hl1 hs₁.extBut D.l1z) hx fun h₂ g1 hs₂ => wpAny_pure ?_)
    have t2 : IsPair h₂ TO a b := hs₂.extBut _ _ D.TOi1 (hs₁.extBut _ _ D.TOz hTO)
    refine wpAny_bind (wpAny_seqItems t2 rfl ?_)
    refine wpAny_bind (wpAny_updateSeq_pair t2 fun h₃ t3 hs₃ => ?_)
    refine wpAny_bind (wpAny_letGo (wpAny_pure ?_))
    refine wpAny_bind (wpAny_bind (wpAny_onRaise ?_))
    show wpAny _ _ (Builtin.SmallTypes.nextOf (.ref i2) >>= _) _ _ _
    refine wpAny_bind (R.fin hh (((h2.ext hs₁.extBut D.i2z).ext hs₂.extBut D.i12.symm).ext hs₃.extBut D.TOi2.symm)
      (R.ext (R.ext (R.ext hl2 hs₁.extBut D.l2z) hs₂.extBut D.l2i1) hs₃.extBut D.l2TO) hy fun h₄ e hs₄ he => ?_)
    obtain ⟨oe, hoe, hce⟩ := he
    have z4 : IsZip h₄ z TI TO .ellipsis := hs₄ _ _ D.i2z.symm (hs₃.extBut _ _ D.TOz.symm (hs₂.extBut _ _ D.i1z.symm hz₁))
    have hez : e ≠ z := fun x => by subst x; rw [z4] at hoe; cases hoe; simp at hce
    exact wpAny_setField_rec z4 (by simp) fun h₅ _ hs₅ => hE h₅ e (fun c o c1 c2 c3 c4 x => hs₅.extBut _ _ c1 (hs₄ _ _ c4 (hs₃.extBut _ _ c2 (hs₂.extBut _ _ c3 (hs₁.extBut _ _ c1 x))))) ⟨oe, hs₅.extBut _ _ hez hoe, hce⟩
theorem zm_next {z TI TO i1 i2 l1 l2 : Addr} {k : Nat} {xs ys : Array Value} {x y a b : Value} {Q : Option Value → Shared → Prop} (D : ZipApart z TI TO i1 i2 l1 l2) (Z : ZpAt S R s.heap z TI TO i1 i2 l1 l2 k a b)
    (hl1 : S.Sq s.heap l1 xs) (hl2 : R.Sq s.heap l2 ys) (hx : xs[k]? = some x) (hy : ys[k]? = some y)
    (hQ : ∀ h', IsZip h' z TI TO (rawInt s.heap.objs.size) → IsPair h' TO x y → ItC S.cls h' i1 l1 (k + 1) → ItC R.cls h' i2 l2 (k + 1) → IsPair h' s.heap.objs.size x y → h'.objs.size = s.heap.objs.size + 1 →
      (∀ c o, c ≠ z → c ≠ TO → c ≠ i1 → c ≠ i2 → s.heap.get? c = some o → h'.get? c = some o) → Q (some (.ref s.heap.objs.size)) { s with heap := h' }) :
    wpAny (model prog w) A (pyNext (.ref z)) Q E s := by
  have hT : s.TypeIs (.ref z) "zip" := ⟨_, Z.z, rfl⟩
  unfold pyNext
  exact wpAny_bind (wpAny_attempt (wpAny_callSpecial?_slot (name := Str.ofString "__next__") hT F.slot_zip_next
    (wpAny_call_entry F.slot_zip_next hT F.entry_zip_next
      (zm_item S R D Z hl1 hl2 hx hy fun h' a1 a2 a3 a4 a5 a6 a7 => wpAny_pure (hQ h' a1 a2 a3 a4 a5 a6 a7)) (F.args_zip_next_1 _))))
theorem zm_stop {z TI TO i1 i2 l1 l2 : Addr} {k : Nat} {xs ys : Array Value} {a b : Value} {Q : Option Value → Shared → Prop} (hh : A.handled = none) (D : ZipApart z TI TO i1 i2 l1 l2) (Z : ZpAt S R s.heap z TI TO i1 i2 l1 l2 k a b)
    (hl1 : S.Sq s.heap l1 xs) (hl2 : R.Sq s.heap l2 ys) (hend : xs[k]? = none ∨ ys[k]? = none)
    (hQ : ∀ h', (∀ c o, c ≠ z → c ≠ TO → c ≠ i1 → c ≠ i2 → s.heap.get? c = some o → h'.get? c = some o) → Q none { s with heap := h' }) : wpAny (model prog w) A (pyNext (.ref z)) Q E s := by
  have hT : s.TypeIs (.ref z) "zip" := ⟨_, Z.z, rfl⟩
  unfold pyNext
  refine wpAny_bind (wpAny_attempt (wpAny_callSpecial?_slot (name := Str.ofString "__next__") hT F.slot_zip_next
    (wpAny_call_entry F.slot_zip_next hT F.entry_zip_next (zm_end S R hh D Z hl1 hl2 hend fun h' e hk he => ?_) (F.args_zip_next_1 _))))
  obtain ⟨o, ho, hc⟩ := he
  refine wpAny_bind (wpAny_isInstance (T := "StopIteration") (b := true) ⟨o, ho, hc⟩ isSubtype_stop ?_)
  exact wpAny_pure (hQ _ hk)
end
abbrev zmH1 (h : Heap) (l1 : Addr) : Heap := h.push { cls := .type S.cls, data := .fields #[.ref l1, .int 0 0] }
abbrev zmH2 (h : Heap) (l1 l2 : Addr) : Heap := (zmH1 S h l1).push { cls := .type R.cls, data := .fields #[.ref l2, .int 0 0] }
abbrev zmH3 (h : Heap) (l1 l2 : Addr) : Heap := (zmH2 S R h l1 l2).push { cls := .type "tuple", data := .seq #[.ref h.objs.size, .ref (zmH1 S h l1).objs.size] }
abbrev zmH4 (h : Heap) (l1 l2 : Addr) : Heap := (zmH3 S R h l1 l2).push { cls := .type "tuple", data := .seq #[.none, .none] }
abbrev zmH5 (h : Heap) (l1 l2 : Addr) : Heap := (zmH4 S R h l1 l2).push { cls := .type "zip", data := .fields #[.none, .bool false, .bool false, .ref (zmH2 S R h l1 l2).objs.size, .ref (zmH3 S R h l1 l2).objs.size] }
theorem zm_meets (l1 l2 : Addr) (xs ys : Array Value) :
    Meets (Builtin.«zip.__new__» ⟨[.type "zip", .ref l1, .ref l2], []⟩) (fun _ R' s => S.Sq s.heap l1 xs ∧ R.Sq s.heap l2 ys ∧
      R' (.ok (.ret (.ref (zmH4 S R s.heap l1 l2).objs.size))) { s with heap := zmH5 S R s.heap l1 l2 }) :=
  .of_wp fun prog w A R' s h => by
    obtain ⟨hp, g, d, tk, os⟩ := s; obtain ⟨hl1, hl2, h⟩ := h
    have hsub := sub_zip
    have hL1 : S.Sq (Shared.heap ⟨hp, g, d, tk, os⟩) l1 xs := hl1
    have hL2 : R.Sq (Shared.heap ⟨hp.push { cls := .type S.cls, data := .fields #[.ref l1, .int 0 0] }, g, d, tk, os⟩) l2 ys := R.push _ hl2
    wp_walk using S.iter hL1, R.iter hL2
    exact ⟨_, rfl, h⟩
end
end Dv
/-! zip of two sequences, each a list or a tuple: the walk -/
namespace Dv
open PySem PySem.Spec PyProof.Rows L2
section
variable (S R : Sd)
theorem zm_call {prog : Program} {w : World} {A : Around} {E : Value → Shared → Prop} {s : Shared} {l1 l2 : Addr} {xs ys : Array Value} {Q : Value → Shared → Prop} (hl1 : S.Sq s.heap l1 xs) (hl2 : R.Sq s.heap l2 ys)
    (h : ∀ h', ZpAt S R h' (s.heap.objs.size + 4) (s.heap.objs.size + 2) (s.heap.objs.size + 3) s.heap.objs.size (s.heap.objs.size + 1) l1 l2 0 .none .none → h'.objs.size = s.heap.objs.size + 5 →
      (∀ c o, s.heap.get? c = some o → h'.get? c = some o) → Q (.ref (s.heap.objs.size + 4)) { s with heap := h' }) :
    wpAny (model prog w) A (call (.type "zip") [.ref l1, .ref l2]) Q E s := by
  refine callType_new F.called_zip (by decide) (F.typeCall_zip_2 _ _) (F.newCall_zip_2 _ _) (fun obj => F.args_object_init_3 obj _ _) F.entry_zip_new
    (zm_meets S R l1 l2 xs ys) ⟨hl1, hl2, ?_⟩
  have n1 : (zmH1 S s.heap l1).objs.size = s.heap.objs.size + 1 := Heap.size_push ..
  have n2 : (zmH2 S R s.heap l1 l2).objs.size = s.heap.objs.size + 2 := by rw [Heap.size_push, n1]
  have n3 : (zmH3 S R s.heap l1 l2).objs.size = s.heap.objs.size + 3 := by rw [Heap.size_push, n2]
  have n4 : (zmH4 S R s.heap l1 l2).objs.size = s.heap.objs.size + 4 := by rw [Heap.size_push, n3]
  have n5 : (zmH5 S R s.heap l1 l2).objs.size = s.heap.objs.size + 5 := by rw [Heap.size_push, n4]
  have e5 : (zmH5 S R s.heap l1 l2).get? (zmH4 S R s.heap l1 l2).objs.size = some _ := Heap.get?_push_size _ rfl
  have e4 : (zmH5 S R s.heap l1 l2).get? (zmH3 S R s.heap l1 l2).objs.size = some _ := Heap.get?_push_of_some _ (Heap.get?_push_size _ rfl)
  have e3 : (zmH5 S R s.heap l1 l2).get? (zmH2 S R s.heap l1 l2).objs.size = some _ := Heap.get?_push_of_some _ (Heap.get?_push_of_some _ (Heap.get?_push_size _ rfl))
  have e2 : (zmH5 S R s.heap l1 l2).get? (zmH1 S s.heap l1).objs.size = some _ := Heap.get?_push_of_some _ (Heap.get?_push_of_some _ (Heap.get?_push_of_some _ (Heap.get?_push_size _ rfl)))
  have e1 : (zmH5 S R s.heap l1 l2).get? s.heap.objs.size = some _ := Heap.get?_push_of_some _ (Heap.get?_push_of_some _ (Heap.get?_push_of_some _ (Heap.get?_push_of_some _ (Heap.get?_push_size _ rfl))))
  show _ ∧ _
  rw [n2, n3, n4] at e5
  rw [n1, n2] at e3
  rw [n3] at e4
  rw [n1] at e2
  rw [n4]
  exact ⟨⟨_, e5, rfl⟩, h _ ⟨e5, e3, e4, ⟨_, e1, rfl, rfl⟩, ⟨_, e2, rfl, rfl⟩⟩ n5 fun c o x =>
    Heap.get?_push_of_some _ (Heap.get?_push_of_some _ (Heap.get?_push_of_some _ (Heap.get?_push_of_some _ (Heap.get?_push_of_some _ x))))⟩
/-- both as they stand at each turn, the items in new pairs -/
def ItZ (K : PySem.W.Frag) (a b : Addr) : It :=
  ⟨fun i H => ∃ (xs ys : List V) (x y : V), S.V K H a xs ∧ R.V K H b ys ∧ xs[i]? = some x ∧ ys[i]? = some y,
    fun i H v H' => ∃ T x y, v = .ref T ∧ H T = none ∧ H' = upd H T (.tup [x, y]) ∧ (∀ xs, S.V K H a xs → xs[i]? = some x) ∧ ∀ ys, R.V K H b ys → ys[i]? = some y,
    fun i H => ∃ xs ys : List V, S.V K H a xs ∧ R.V K H b ys ∧ (xs.length ≤ i ∨ ys.length ≤ i)⟩
theorem zm_turn {P : Program} {w : World} {K : PySem.W.Frag} {elts : List Expr} {kk : Nat} {tpos : Pos} {a b z TI TO i1 i2 : Addr} (D : ZipApart z TI TO i1 i2 a b) :
    Turn P w K (.Tuple elts kk tpos) (ItZ S R K a b) [z, TI, TO, i1, i2] z (fun i h => ∃ x y, ZpAt S R h z TI TO i1 i2 a b i x y) where
  mem := by simp
  obj := fun i h st c hc => by
    obtain ⟨x, y, hz, hTI, hTO, ⟨o1, e1, _, d1⟩, ⟨o2, e2, _, d2⟩⟩ := st
    have e' : c = z ∨ c = TI ∨ c = TO ∨ c = i1 ∨ c = i2 := by simpa using hc
    rcases e' with q | q | q | q | q
    · rw [q]; exact ⟨_, hz, fun v q => nomatch q⟩
    · rw [q]; exact ⟨_, hTI, fun v q => nomatch q⟩
    · rw [q]; exact ⟨_, hTO, fun v q => nomatch q⟩
    · rw [q]; exact ⟨o1, e1, fun v q => by rw [d1] at q; cases q⟩
    · rw [q]; exact ⟨o2, e2, fun v q => by rw [d2] at q; cases q⟩
  keep := fun i h h' st k => by
    obtain ⟨x, y, hz, hTI, hTO, h1, h2⟩ := st
    exact ⟨x, y, k z (by simp) _ hz, k TI (by simp) _ hTI, k TO (by simp) _ hTO, h1.keep fun o q => k i1 (by simp) o q, h2.keep fun o q => k i2 (by simp) o q⟩
  item := by
    intro X hP hw hK hc i pins s σ H E I hf st hg
    subst hP hw hK
    obtain ⟨x0, y0, Z⟩ := st
    obtain ⟨xs, ys, x, y, hqx, hqy, hx, hy⟩ := hg
    obtain ⟨its, rv, p⟩ := S.inv I hqx
    obtain ⟨its2, rv2, p2⟩ := R.inv I hqy
    obtain ⟨u, hu, ru⟩ := rv.get hx
    obtain ⟨u2, hu2, ru2⟩ := rv2.get hy
    have zl : z < s.heap.objs.size := Heap.lt_size Z.z
    refine zm_next S R D Z p p2 (x := u) (y := u2) (by simpa using hu) (by simpa using hu2) fun h' z' TO' h1' h2' hT hsz hk => ?_
    refine ⟨_, rfl, wpAny_letOwnedTupleGo_zip (s := { s with heap := h' }) z' fun h'' z'' sb => ?_⟩
    have hT2 : h''.get? s.heap.objs.size = some { cls := .type "tuple", data := .seq #[u, u2] } := (sb.2 _ (Nat.ne_of_gt zl)).trans hT
    have new : ObjOk X.prog X.w (upd H s.heap.objs.size (.tup [x, y])) h'' s.heap.objs.size (.tup [x, y]) :=
      ⟨by show 2 ≤ sizeLine; decide, [u, u2], .cons ru (.cons ru2 .nil), ⟨_, hT2, rfl, _, rfl⟩⟩
    have I1 : Inv X pins σ (upd H s.heap.objs.size (.tup [x, y])) { s with heap := h'' } :=
      I.turnedNew (t' := s.toks) (ch := [z, TI, TO, i1, i2]) (fun c o hb q => (sb.2 c (fun q' => hb (by simp [q']))).trans (hk c o (fun q' => hb (by simp [q'])) (fun q' => hb (by simp [q'])) (fun q' => hb (by simp [q'])) (fun q' => hb (by simp [q'])) q)) hf (Nat.le_refl _) new
    refine ⟨.ref s.heap.objs.size, _, I1, rfl, ⟨_, x, y, rfl, I.hok.fresh (Nat.le_refl _), rfl, fun l hl => by rw [S.inj I hl hqx]; exact hx, fun l hl => by rw [R.inj I hl hqy]; exact hy⟩, ⟨u, u2, z'', ?_, ?_, ?_, ?_⟩, fun c hcm => ?_⟩
    · exact (sb.2 _ D.TIz).trans (hk _ _ D.TIz D.TITO D.TIi1 D.TIi2 Z.ti)
    · exact (sb.2 _ D.TOz).trans TO'
    · exact h1'.keep fun o q => (sb.2 _ D.i1z).trans q
    · exact h2'.keep fun o q => (sb.2 _ D.i2z).trans q
    · have hlt : c < s.heap.objs.size := by
        have e' : c = z ∨ c = TI ∨ c = TO ∨ c = i1 ∨ c = i2 := by simpa using hcm
        rcases e' with q | q | q | q | q
        · rw [q]; exact zl
        · rw [q]; exact Heap.lt_size Z.ti
        · rw [q]; exact Heap.lt_size Z.to
        · rw [q]; exact Z.i1.lt
        · rw [q]; exact Z.i2.lt
      rw [upd_ne (Nat.ne_of_lt hlt)]
      exact (hf c hcm).1
  done := by
    intro X hP hw hK hc i pins s σ H E I hf st hg
    subst hP hw hK
    obtain ⟨x0, y0, Z⟩ := st
    obtain ⟨xs, ys, hqx, hqy, hend⟩ := hg
    obtain ⟨its, rv, p⟩ := S.inv I hqx
    obtain ⟨its2, rv2, p2⟩ := R.inv I hqy
    have l1 := rv.length
    have l2 := rv2.length
    have he : its.toArray[i]? = none ∨ its2.toArray[i]? = none := by
      rcases hend with q | q
      · exact .inl (by simp; omega)
      · exact .inr (by simp; omega)
    exact zm_stop S R (I.ok.hd hc) D Z p p2 he fun h' hk => ⟨rfl, I.turnedL (t' := s.toks) (ch := [z, TI, TO, i1, i2]) (fun c o hb q =>
      hk c o (fun q' => hb (by simp [q'])) (fun q' => hb (by simp [q'])) (fun q' => hb (by simp [q'])) (fun q' => hb (by simp [q'])) q) hf⟩
  self := fun A i s Q E st h => by
    obtain ⟨_, _, Z⟩ := st
    exact wpAny_pyIter_zip Z.z h
end
def iZm (K : PySem.W.Frag) (ta : TA) : TI := fun σ H R => ta σ H fun vs H1 => ∃ (S T : Sd) (a b : Addr) (xs ys : List V), vs = [.ref a, .ref b] ∧ S.V K H1 a xs ∧ T.V K H1 b ys ∧ R (ItZ S T K a b) H1
theorem pi_zm {X : Cx} {e e2 : Expr} {ta : TA} {p pos tpos : Pos} {elts : List Expr} {kk : Nat} (hg : Gl X "zip") (hm : X.mg "zip" = none) (ha : PA X [e, e2] ta)
    (hs : starEach [e, e2] X.env = (false, eval e X.env) :: starEach [e2] X.env := by rfl) (hpl : (backTo pos (starEach [e2] X.env)).any (·.1) = false := by rfl) :
    PI X (.Tuple elts kk tpos) (.Call (.Name "zip" p) [e, e2] [] pos) (iZm X.K ta) := by
  refine ⟨fun pins s σ H R I h => ?_⟩
  refine Call_ (ld_blt I hg hm PyProof.Rows.boot_zip (PyProof.Rows.callWith_type1 (thn (ha.run pos pins s σ H _ I h) fun us s1 ⟨vs, H1, I1, r1, q1⟩ => ?_) hs hpl))
  obtain ⟨S, T, a, b, xs, ys, rfl, hqx, hqy, q⟩ := q1
  cases r1 with
  | cons r rr =>
    cases rr with
    | cons r' rr =>
      cases rr
      cases r
      cases r'
      have fresh5 : ∀ c, c ∈ [s1.heap.objs.size + 4, s1.heap.objs.size + 2, s1.heap.objs.size + 3, s1.heap.objs.size, s1.heap.objs.size + 1] → FpOk X pins H1 c := fun c hcm => by
        have e' : c = s1.heap.objs.size + 4 ∨ c = s1.heap.objs.size + 2 ∨ c = s1.heap.objs.size + 3 ∨ c = s1.heap.objs.size ∨ c = s1.heap.objs.size + 1 := by simpa using hcm
        have hle : s1.heap.objs.size ≤ c := by rcases e' with z | z | z | z | z <;> rw [z] <;> first | exact Nat.le_add_right _ _ | exact Nat.le_refl _
        exact I1.fpOk hle (I1.hok.fresh hle)
      obtain ⟨its, rv, p1⟩ := S.inv I1 hqx
      obtain ⟨its2, rv2, p2⟩ := T.inv I1 hqy
      refine zm_call S T p1 p2 fun h' Z hsz hk => wpAny_pyIter_zip Z.z ?_
      have I2 : Inv X pins σ H1 { s1 with heap := h' } := I1.kept (t' := s1.toks) hk
      exact ⟨s1.heap.objs.size + 4, [s1.heap.objs.size + 4, s1.heap.objs.size + 2, s1.heap.objs.size + 3, s1.heap.objs.size, s1.heap.objs.size + 1], _, _, H1, rfl, I2, zm_turn S T (PySem.W.ktu_apart s1.heap.objs.size a b (S.lt p1) (T.lt p2)), ⟨_, _, Z⟩, fresh5, q⟩
end Dv
namespace Dv
open PySem L2 PyProof.Rows
/-- J walks ds, G standing -/
structure WalkD (K : Frg) (G : Hp) (J : It) (ds : List D) : Prop where
  goes : ∀ i H, i < ds.length → Same G H → J.go i H
  stops : ∀ H, Same G H → J.stop ds.length H
  yields : ∀ i H x H', i < ds.length → Same G H → J.yld i H x H' → ∃ d, ds[i]? = some d ∧ ((H' = H ∧ Rp K G x d) ∨ ∃ p o, H p = none ∧ noT o ∧ H' = upd H p o ∧ Rp K (upd G p o) x d)
section
variable {F : Fx} {T : Tab} {N : List Str} {sc : Scope} {k : Nat} {X : Cx} {e a b tg : Expr} {pos : Pos}
def rdI (F : Fx) (m : M (List D)) : TI := fun σ H R => ∃ G ρ O, Er F G H σ ρ O ∧ match m ρ with
  | .ok ds ρ' => ∀ J G' H' O', Er F G' H' σ ρ' O' → Stp ρ O G H ρ' O' G' H' → WalkD F.K G' J ds → R J H'
  | .exc x ρ' => Xc F σ x ρ' G
  | .bad => False
theorem piI {e : Expr} {t t' : TI} (h : PI X tg e t) (i : ∀ σ H Q, t' σ H Q → t σ H Q) : PI X tg e t' := ⟨fun pins s σ H Q I q => h.run pins s σ H Q I (i _ _ _ q)⟩
/-- a list, a tuple, a text -/
def iAny (K : Frg) (te : TE) : TI := fun σ H R => te σ H fun x H1 => (∃ a, x = .ref a ∧ (∃ xs, SqL K H1 a xs) ∧ R (Itl K a) H1) ∨ (∃ a, x = .ref a ∧ (∃ xs, SqT K H1 a xs) ∧ R (Itt K a) H1) ∨ ∃ z, x = .str z ∧ R (Its z) H1
theorem pi_any {te : TE} (hl : PE X e te) : PI X tg e (iAny X.K te) := by
  refine ⟨fun pins s σ H R I h => ?_⟩
  refine thn (hl.run pins s σ H _ I h) fun v s1 ⟨x, H1, I1, r1, q1⟩ => ?_
  rcases q1 with ⟨a, e, ⟨xs, hq⟩, q⟩ | ⟨a, e, ⟨xs, hq⟩, q⟩ | ⟨z, e, q⟩
  · subst e
    cases r1
    obtain ⟨its, rv, p, hz⟩ := I1.list hq
    refine wpAny_pyIter_list p.isList ?_
    refine ⟨s1.heap.objs.size, [s1.heap.objs.size], _, _, H1, rfl, I1.kept (t' := s1.toks) fun b o e => Heap.get?_push_of_some _ e, turn_list a _, ⟨_, Heap.get?_push_size _ rfl, rfl, rfl⟩, fun b hb => ?_, q⟩
    have e : b = s1.heap.objs.size := by simpa using hb
    subst e
    exact I1.fpOk (Nat.le_refl _) (I1.hok.fresh (Nat.le_refl _))
  · subst e
    cases r1
    obtain ⟨its, rv, p, hz⟩ := I1.tuple hq
    refine wpAny_pyIter_tuple (show s1.heap.IsTuple a its.toArray from p) ?_
    refine ⟨s1.heap.objs.size, [s1.heap.objs.size], _, _, H1, rfl, I1.kept (t' := s1.toks) fun b o e => Heap.get?_push_of_some _ e, turn_tuple a _, ⟨_, Heap.get?_push_size _ rfl, rfl, rfl⟩, fun b hb => ?_, q⟩
    have e : b = s1.heap.objs.size := by simpa using hb
    subst e
    exact I1.fpOk (Nat.le_refl _) (I1.hok.fresh (Nat.le_refl _))
  · subst e
    obtain ⟨t, rfl⟩ := r1
    cases ha : z.cps.all (· < 128)
    · exact wpAny_pyIter_wide ha (pi_one (tk := s1.toks) I1 _ (turn_str _ z t "str_iterator" (.inr rfl)) ⟨_, Heap.get?_push_size _ rfl, rfl, rfl⟩ q)
    · exact wpAny_pyIter_ascii ha (pi_one (tk := s1.toks) I1 _ (turn_str _ z t "str_ascii_iterator" (.inl rfl)) ⟨_, Heap.get?_push_size _ rfl, rfl, rfl⟩ q)
def seqD : D → Option (List D)
  | .tup xs => some xs
  | .lst xs => some xs
  | .str z => some (z.cps.toList.map fun c => D.str ⟨#[c]⟩)
  | .scr ns => some (ns.map D.int)
  | _ => none
def seqM (m : M D) : M (List D) := fun ρ => (m ρ).bind fun d ρ' => match seqD d with
  | some ds => .ok ds ρ'
  | none => .bad
theorem walkD_lst {K : Frg} {G : Hp} {a : Addr} {xs : List V} {ds : List D} (h : SqL K G a xs) (r : RpAll K G xs ds) : WalkD K G (Itl K a) ds where
  goes := fun i H hi s => by
    rw [← r.length] at hi
    exact ⟨xs, xs[i], s.seq h, by simp [hi]⟩
  stops := fun H s => ⟨xs, s.seq h, by rw [r.length]; exact Nat.le_refl _⟩
  yields := fun i H x H' hi s y => by
    obtain ⟨e, y⟩ := y
    obtain ⟨d, h1, h2⟩ := r.get' (y xs (s.seq h))
    exact ⟨d, h1, .inl ⟨e, h2⟩⟩
theorem walkD_tup {K : Frg} {G : Hp} {a : Addr} {xs : List V} {ds : List D} (h : SqT K G a xs) (r : RpAll K G xs ds) : WalkD K G (Itt K a) ds where
  goes := fun i H hi s => by
    rw [← r.length] at hi
    exact ⟨xs, xs[i], sqT_up s h, by simp [hi]⟩
  stops := fun H s => ⟨xs, sqT_up s h, by rw [r.length]; exact Nat.le_refl _⟩
  yields := fun i H x H' hi s y => by
    obtain ⟨e, y⟩ := y
    obtain ⟨d, h1, h2⟩ := r.get' (y xs (sqT_up s h))
    exact ⟨d, h1, .inl ⟨e, h2⟩⟩
theorem walkD_str {K : Frg} {G : Hp} {z : Str} : WalkD K G (Its z) (z.cps.toList.map fun c => D.str ⟨#[c]⟩) where
  goes := fun i H hi s => by
    show i < z.cps.size
    simpa using hi
  stops := fun H s => by
    show z.cps.size ≤ _
    simp
  yields := fun i H x H' hi s y => by
    obtain ⟨e, c, h1, rfl⟩ := y
    refine ⟨.str ⟨#[c]⟩, ?_, .inl ⟨e, .str _⟩⟩
    rw [List.getElem?_map, Array.getElem?_toList, h1]
    rfl
theorem i_seq {m : M D} {fr : Bool} (hK : X.K = F.K) (h : PE X e (rdE F m fr)) : PI X tg e (rdI F (seqM m)) := by
  refine piI (pi_any h) fun σ H R ⟨G, ρ, O, E, q⟩ => ?_
  refine rdE_hold ⟨G, ρ, O, E, ?_⟩
  unfold seqM at q
  cases e1 : m ρ with
  | bad => rw [e1] at q; exact q
  | exc x ρ1 => rw [e1] at q; exact q
  | ok d ρ1 =>
    rw [e1] at q
    intro v G1 H1 O1 E1 s1 r1
    simp only [Dv.R.bind_ok] at q
    rw [hK]
    cases r1 with
    | tup h1 h2 => exact .inr (.inl ⟨_, rfl, ⟨_, sqT_up E1.gh h1⟩, q _ G1 H1 O1 E1 s1 (walkD_tup h1 h2)⟩)
    | lst h1 h2 => exact .inl ⟨_, rfl, ⟨_, .inl (.inl (E1.gh _ _ h1))⟩, q _ G1 H1 O1 E1 s1 (walkD_lst (.inl (.inl h1)) h2)⟩
    | scr h1 => exact .inl ⟨_, rfl, ⟨_, E1.gh.seq h1⟩, q _ G1 H1 O1 E1 s1 (walkD_lst h1 (ints_rp _))⟩
    | str z => exact .inr (.inr ⟨z, rfl, q _ G1 H1 O1 E1 s1 walkD_str⟩)
    | _ => exact q.elim
/-! ### ranges -/
def rangeL (lo : Int) (n : Nat) (c : Int) : List D := (List.range n).map fun i => D.int (lo + (i : Nat) * c)
def opI (f : List D → Option (List D)) (os : List Opd) : M (List D) := fun ρ => (evO os ρ).bind fun ds ρ' => match f ds with
  | some xs => .ok xs ρ'
  | none => .bad
def OpIter (F : Fx) (f : List D → Option (List D)) (r : List V → Hp → (It → Hp → Prop) → Prop) : Prop := ∀ G H σ ρ O xs ds zs (R : It → Hp → Prop), Er F G H σ ρ O → VwAll F.K G H xs ds → f ds = some zs → (∀ J, WalkD F.K G J zs → R J H) → r xs H R
theorem opI_rd {es : List Expr} {os : List Opd} {ts : List TE} {f : List D → Option (List D)} {r : List V → Hp → (It → Hp → Prop) → Prop} (h : Ops F X es os ts) (hr : OpIter F f r) {σ : L2.St} {H : Hp} {R : It → Hp → Prop} (q : rdI F (opI f os) σ H R) : tList ts σ H fun vs H' => r vs H' R := by
  obtain ⟨G, ρ, O, E, q⟩ := q
  refine h.run σ H _ ⟨G, ρ, O, E, ?_⟩
  unfold opI at q
  cases e1 : evO os ρ with
  | bad => rw [e1] at q; exact q
  | exc x ρ1 => rw [e1] at q; exact q
  | ok ds ρ1 =>
    rw [e1] at q
    intro vs G1 H1 O1 E1 s1 a1
    simp only [Dv.R.bind_ok] at q
    cases e2 : f ds with
    | none => rw [e2] at q; exact q.elim
    | some zs =>
      rw [e2] at q
      exact hr G1 H1 σ ρ1 O1 vs ds zs R E1 (a1.vw E1) e2 fun J w => q J G1 H1 O1 E1 s1 w
def InRg (i : Int) : Prop := -(2 ^ 62) ≤ i ∧ i < 2 ^ 62
instance (i : Int) : Decidable (InRg i) := by unfold InRg; infer_instance
def rng1 : List D → Option (List D)
  | [.int j] => if InRg j then some (rangeL 0 j.toNat 1) else none
  | _ => none
def rng2 : List D → Option (List D)
  | [.int i, .int j] => if InRg i ∧ InRg j then some (rangeL i (j - i).toNat 1) else none
  | _ => none
instance (i j c : Int) (n : Nat) : Decidable (RgC i j c n) := by unfold RgC; infer_instance
def rng3 : List D → Option (List D)
  | [.int i, .int j, .int c] => if RgC i j c (Builtin.Range.rangeSize i j c).toNat then some (rangeL i (Builtin.Range.rangeSize i j c).toNat c) else none
  | _ => none
theorem walkD_range {K : Frg} {G : Hp} {lo : Int} {n : Nat} : WalkD K G (Itr lo n) (rangeL lo n 1) where
  goes := fun i H hi s => by
    show i < n
    simpa [rangeL] using hi
  stops := fun H s => by
    show n ≤ _
    simp [rangeL]
  yields := fun i H x H' hi s y => by
    obtain ⟨e, rfl⟩ := y
    have hi' : i < n := by simpa [rangeL] using hi
    refine ⟨.int (lo + i), ?_, .inl ⟨e, .int _⟩⟩
    simp [rangeL, hi']
theorem walkD_rangeC {K : Frg} {G : Hp} {lo c : Int} {n : Nat} : WalkD K G (Itc lo c n) (rangeL lo n c) where
  goes := fun i H hi s => by
    show i < n
    simpa [rangeL] using hi
  stops := fun H s => by
    show n ≤ _
    simp [rangeL]
  yields := fun i H x H' hi s y => by
    obtain ⟨e, rfl⟩ := y
    have hi' : i < n := by simpa [rangeL] using hi
    refine ⟨.int (lo + i * c), ?_, .inl ⟨e, .int _⟩⟩
    simp [rangeL, hi']
theorem i_range1 {o : Opd} {t : TE} {p : Pos} (xo : Xo F T N sc k X) (hf : ("range" : Str) ∈ T.free) (gl : Gl X "range") (h : Op1 F X a o t) (pl : plainE a = true) : PI X tg (.Call (.Name "range" p) [a] [] pos) (rdI F (opI rng1 [o])) := by
  have h' : Ops F X [a] [o] [t] := .cons h .nil
  refine piI (pi_range1 gl (xo.free _ hf) (pa_list h' (by rw [List.all_cons, pl]; rfl)) (star_of pl _ _)) fun σ H R q => ?_
  refine opI_rd (r := fun vs H1 R => ∃ j : Int, vs = [.int j] ∧ -(2 ^ 62) ≤ j ∧ j < 2 ^ 62 ∧ R (Itr 0 j.toNat) H1) h' ?_ q
  intro G H σ ρ O xs ds zs R E va e w
  unfold rng1 at e
  split at e
  · split at e
    · rename_i j hj
      cases e
      cases va with
      | cons v1 t =>
        cases t
        exact ⟨j, by rw [v1.int'], hj.1, hj.2, w _ walkD_range⟩
    · cases e
  · cases e
theorem i_range2 {oa ob : Opd} {ta tb : TE} {p : Pos} (xo : Xo F T N sc k X) (hf : ("range" : Str) ∈ T.free) (gl : Gl X "range") (ha : Op1 F X a oa ta) (hb : Op1 F X b ob tb) (pa : plainE a = true) (pb : plainE b = true) : PI X tg (.Call (.Name "range" p) [a, b] [] pos) (rdI F (opI rng2 [oa, ob])) := by
  have h' : Ops F X [a, b] [oa, ob] [ta, tb] := .cons ha (.cons hb .nil)
  refine piI (pi_range2 gl (xo.free _ hf) (pa_list h' (by rw [List.all_cons, List.all_cons, pa, pb]; rfl)) (by rw [star_of pa, star_of pb]; rfl) (star_of pb _ _)) fun σ H R q => ?_
  refine opI_rd (r := fun vs H1 R => ∃ i j : Int, vs = [.int i, .int j] ∧ (-(2 ^ 62) ≤ i ∧ i < 2 ^ 62 ∧ -(2 ^ 62) ≤ j ∧ j < 2 ^ 62) ∧ R (Itr i (j - i).toNat) H1) h' ?_ q
  intro G H σ ρ O xs ds zs R E va e w
  unfold rng2 at e
  split at e
  · split at e
    · rename_i i j hj
      cases e
      cases va with
      | cons v1 t =>
        cases t with
        | cons v2 t =>
          cases t
          exact ⟨i, j, by rw [v1.int', v2.int'], ⟨hj.1.1, hj.1.2, hj.2.1, hj.2.2⟩, w _ walkD_range⟩
    · cases e
  · cases e
theorem i_range3 {c : Expr} {oa ob oc : Opd} {ta tb tc : TE} {p : Pos} (xo : Xo F T N sc k X) (hf : ("range" : Str) ∈ T.free) (gl : Gl X "range") (ha : Op1 F X a oa ta) (hb : Op1 F X b ob tb) (hc : Op1 F X c oc tc) (pa : plainE a = true) (pb : plainE b = true) (pc : plainE c = true) : PI X tg (.Call (.Name "range" p) [a, b, c] [] pos) (rdI F (opI rng3 [oa, ob, oc])) := by
  have h' : Ops F X [a, b, c] [oa, ob, oc] [ta, tb, tc] := .cons ha (.cons hb (.cons hc .nil))
  refine piI (pi_range3 gl (xo.free _ hf) (pa_list h' (by rw [List.all_cons, List.all_cons, List.all_cons, pa, pb, pc]; rfl)) (by rw [star_of pa] <;> rfl) (by rw [star_of pb, star_of pc] <;> rfl)) fun σ H R q => ?_
  refine opI_rd (r := fun vs H1 R => ∃ (i j c : Int) (n : Nat), vs = [.int i, .int j, .int c] ∧ RgC i j c n ∧ R (Itc i c n) H1) h' ?_ q
  intro G H σ ρ O xs ds zs R E va e w
  unfold rng3 at e
  split at e
  · split at e
    · rename_i i j c hj
      cases e
      cases va with
      | cons v1 t =>
        cases t with
        | cons v2 t =>
          cases t with
          | cons v3 t =>
            cases t
            exact ⟨i, j, c, _, by rw [v1.int', v2.int', v3.int'], hj, w _ walkD_rangeC⟩
    · cases e
  · cases e
/-! ### zip -/
def zipD : List D → Option (List D)
  | [.lst xs, .lst ys] => some ((xs.zip ys).map fun q => .tup [q.1, q.2])
  | [.tup xs, .tup ys] => some ((xs.zip ys).map fun q => .tup [q.1, q.2])
  | [.lst xs, .tup ys] => some ((xs.zip ys).map fun q => .tup [q.1, q.2])
  | [.tup xs, .lst ys] => some ((xs.zip ys).map fun q => .tup [q.1, q.2])
  | _ => none
theorem zip_at {α β : Type} : ∀ {xs : List α} {ys : List β} {i : Nat} {x : α} {y : β}, xs[i]? = some x → ys[i]? = some y → (xs.zip ys)[i]? = some (x, y)
  | x :: xs, y :: ys, 0, _, _, h, h' => by simp at h h'; subst h h'; rfl
  | x :: xs, y :: ys, i + 1, _, _, h, h' => by
    simp only [List.getElem?_cons_succ] at h h'
    rw [List.zip_cons_cons, List.getElem?_cons_succ]
    exact zip_at h h'
  | [], _, _, _, _, h, _ => by simp at h
  | _ :: _, [], _, _, _, _, h => by simp at h
/-- the items stand for good: the two sequences are frozen ones -/
def frzM (m : M D) : M D := m
theorem walkD_zm {S R : Sd} {K : Frg} {G : Hp} {pa pb : Addr} {xs ys : List V} {ds es : List D} (sv : ∀ H, Same G H → S.V K H pa xs) (rv : ∀ H, Same G H → R.V K H pb ys) (h2 : RpAll K G xs ds) (h4 : RpAll K G ys es) :
    WalkD K G (ItZ S R K pa pb) ((ds.zip es).map fun q => .tup [q.1, q.2]) := by
  refine ⟨fun i H hi s => ?_, fun H s => ?_, fun i H x H' hi s y => ?_⟩
  · simp at hi
    have l1 := h2.length
    have l2 := h4.length
    exact ⟨xs, ys, xs[i]'(by omega), ys[i]'(by omega), sv _ s, rv _ s, by simp [show i < xs.length by omega], by simp [show i < ys.length by omega]⟩
  · refine ⟨xs, ys, sv _ s, rv _ s, ?_⟩
    simp only [List.length_map, List.length_zip]
    have l1 := h2.length
    have l2 := h4.length
    omega
  · obtain ⟨T, x1, y1, rfl, hT, rfl, f1, f2⟩ := y
    obtain ⟨d1, g1, g2⟩ := h2.get' (f1 _ (sv _ s))
    obtain ⟨d2, g3, g4⟩ := h4.get' (f2 _ (rv _ s))
    have gT : G T = none := Same.free s hT
    exact ⟨.tup [d1, d2], by rw [List.getElem?_map, zip_at g1 g3]; rfl, .inr ⟨T, _, hT, by (intro ps e; cases e), rfl, .tup (.inl (.inl upd_same)) (.cons (g2.up (same_new gT)) (.cons (g4.up (same_new gT)) .nil))⟩⟩
theorem i_zip {m n : M D} {fr fr' : Bool} {p tpos : Pos} {elts : List Expr} {kk : Nat} (xo : Xo F T N sc k X) (hf : ("zip" : Str) ∈ T.free) (gl : Gl X "zip") (ha : PE X a (rdE F m fr)) (hb : PE X b (rdE F n fr')) (pa : plainE a = true) (pb : plainE b = true) :
    PI X (.Tuple elts kk tpos) (.Call (.Name "zip" p) [a, b] [] pos) (rdI F (opI zipD [.ex m, .ex n])) := by
  have h' : Ops F X [a, b] [.ex m, .ex n] _ := .cons (.ex ha) (.cons (.ex hb) .nil)
  refine piI (pi_zm gl (xo.free _ hf) (pa_list h' (by rw [List.all_cons, List.all_cons, pa, pb]; rfl)) (star_of pa _ _) (nostar _ _ (by rw [List.all_cons, pb]; rfl))) fun σ H R ⟨G, ρ, O, E, q⟩ => ?_
  refine h'.run σ H _ ⟨G, ρ, O, E, ?_⟩
  unfold opI at q
  cases e1 : evO [.ex m, .ex n] ρ with
  | bad => rw [e1] at q; exact q
  | exc x ρ1 => rw [e1] at q; exact q
  | ok ds ρ1 =>
    rw [e1] at q
    intro vs G1 H1 O1 E1 s1 a1
    simp only [Dv.R.bind_ok] at q
    have rr := a1.rp (fun o ho => by
      rcases List.mem_cons.mp ho with rfl | ho
      · exact ⟨_, rfl⟩
      · rcases List.mem_cons.mp ho with rfl | ho
        · exact ⟨_, rfl⟩
        · cases ho)
    cases rr with
    | nil => exact q.elim
    | cons r1 t =>
      cases t with
      | nil =>
        rename_i d1
        cases d1 <;> exact q.elim
      | cons r2 t =>
        cases t with
        | cons _ _ => have hl := evO_len e1; simp at hl
        | nil =>
          rw [xo.hK]
          cases r1 with
          | lst h1 h2 =>
            have sv : ∀ H, Same G1 H → sdL.V F.K H _ _ := fun H s => .inl (.inl (s _ _ h1))
            cases r2 with
            | lst h3 h4 =>
              have rv : ∀ H, Same G1 H → sdL.V F.K H _ _ := fun H s => .inl (.inl (s _ _ h3))
              exact ⟨sdL, sdL, _, _, _, _, rfl, sv _ E1.gh, rv _ E1.gh, q _ G1 H1 O1 E1 s1 (walkD_zm sv rv h2 h4)⟩
            | tup h3 h4 =>
              have rv : ∀ H, Same G1 H → sdT.V F.K H _ _ := fun H s => sqT_up s h3
              exact ⟨sdL, sdT, _, _, _, _, rfl, sv _ E1.gh, rv _ E1.gh, q _ G1 H1 O1 E1 s1 (walkD_zm sv rv h2 h4)⟩
            | _ => exact q.elim
          | tup h1 h2 =>
            have sv : ∀ H, Same G1 H → sdT.V F.K H _ _ := fun H s => sqT_up s h1
            cases r2 with
            | lst h3 h4 =>
              have rv : ∀ H, Same G1 H → sdL.V F.K H _ _ := fun H s => .inl (.inl (s _ _ h3))
              exact ⟨sdT, sdL, _, _, _, _, rfl, sv _ E1.gh, rv _ E1.gh, q _ G1 H1 O1 E1 s1 (walkD_zm sv rv h2 h4)⟩
            | tup h3 h4 =>
              have rv : ∀ H, Same G1 H → sdT.V F.K H _ _ := fun H s => sqT_up s h3
              exact ⟨sdT, sdT, _, _, _, _, rfl, sv _ E1.gh, rv _ E1.gh, q _ G1 H1 O1 E1 s1 (walkD_zm sv rv h2 h4)⟩
            | _ => exact q.elim
          | _ =>
            cases r2 <;> exact q.elim
end
end Dv
namespace Dv
open PySem L2 PyProof.Rows
/-! ### the reading -/
def enuL : Nat → List D → List D
  | _, [] => []
  | i, d :: r => .tup [.int i, d] :: enuL (i + 1) r
theorem enuL_len : ∀ (i : Nat) (ds : List D), (enuL i ds).length = ds.length
  | _, [] => rfl
  | i, d :: r => by show (enuL (i + 1) r).length + 1 = _; rw [enuL_len]; rfl
theorem enuL_at : ∀ {i j : Nat} {ds : List D} {x : D}, ds[j]? = some x → (enuL i ds)[j]? = some (.tup [.int ((i + j : Nat) : Int), x])
  | i, 0, d :: r, x, h => by
    simp only [List.getElem?_cons_zero, Option.some.injEq] at h
    subst h
    rfl
  | i, j + 1, d :: r, x, h => by
    rw [List.getElem?_cons_succ] at h
    have := enuL_at (i := i + 1) h
    show (enuL (i + 1) r)[j]? = _
    rw [this, show i + 1 + j = i + (j + 1) by omega]
  | _, 0, [], _, h => by simp at h
  | _, _ + 1, [], _, h => by simp at h
def enuD : List D → Option (List D)
  | [.lst xs] => some (enuL 0 xs)
  | [.tup xs] => some (enuL 0 xs)
  | _ => none
section
variable {F : Fx} {T : Tab} {N : List Str} {sc : Scope} {k : Nat} {X : Cx} {a tg : Expr} {pos : Pos}
theorem i_enu {m : M D} {fr : Bool} {p tpos : Pos} {elts : List Expr} {kk : Nat} (xo : Xo F T N sc k X) (hf : ("enumerate" : Str) ∈ T.free) (gl : Gl X "enumerate") (ha : PE X a (rdE F m fr)) (pa : plainE a = true) :
    PI X (.Tuple elts kk tpos) (.Call (.Name "enumerate" p) [a] [] pos) (rdI F (opI enuD [.ex m])) := by
  have h' : Ops F X [a] [.ex m] _ := .cons (.ex ha) .nil
  refine piI (pi_enA gl (xo.free _ hf) (pa_list h' (by rw [List.all_cons, pa]; rfl)) (star_of pa _ _)) fun σ H R ⟨G, ρ, O, E, q⟩ => ?_
  refine h'.run σ H _ ⟨G, ρ, O, E, ?_⟩
  unfold opI at q
  cases e1 : evO [.ex m] ρ with
  | bad => rw [e1] at q; exact q
  | exc x ρ1 => rw [e1] at q; exact q
  | ok ds ρ1 =>
    rw [e1] at q
    intro vs G1 H1 O1 E1 s1 a1
    simp only [Dv.R.bind_ok] at q
    have rr := a1.rp (fun o ho => by
      rcases List.mem_cons.mp ho with rfl | ho
      · exact ⟨_, rfl⟩
      · cases ho)
    cases rr with
    | nil => exact q.elim
    | cons r1 t =>
      cases t with
      | cons _ _ => have hl := evO_len e1; simp at hl
      | nil =>
        rw [xo.hK]
        cases r1 with
        | lst h1 h2 =>
          rename_i pa xs ds
          refine ⟨pa, xs, rfl, .inl ⟨.inl (.inl (E1.gh _ _ h1)), q _ G1 H1 O1 E1 s1 ⟨fun i H hi s => ?_, fun H s => ?_, fun i H x H' hi s y => ?_⟩⟩⟩
          · rw [enuL_len] at hi
            have l1 := h2.length
            exact ⟨xs, xs[i]'(by omega), .inl (.inl (s _ _ h1)), by simp [show i < xs.length by omega]⟩
          · refine ⟨xs, .inl (.inl (s _ _ h1)), ?_⟩
            rw [enuL_len]
            have l1 := h2.length
            omega
          · obtain ⟨T, x1, rfl, hT, rfl, f1⟩ := y
            obtain ⟨d1, g1, g2⟩ := h2.get' (f1 _ (.inl (.inl (s _ _ h1))))
            have gT : G1 T = none := Same.free s hT
            refine ⟨.tup [.int ((0 + i : Nat) : Int), d1], enuL_at g1, .inr ⟨T, _, hT, by (intro ps e; cases e), rfl, .tup (.inl (.inl upd_same)) (.cons ?_ (.cons (g2.up (same_new gT)) .nil))⟩⟩
            rw [Nat.zero_add]; exact .int _
        | tup h1 h2 =>
          rename_i pa xs ds
          refine ⟨pa, xs, rfl, .inr ⟨sqT_up E1.gh h1, q _ G1 H1 O1 E1 s1 ⟨fun i H hi s => ?_, fun H s => ?_, fun i H x H' hi s y => ?_⟩⟩⟩
          · rw [enuL_len] at hi
            have l1 := h2.length
            exact ⟨xs, xs[i]'(by omega), sqT_up s h1, by simp [show i < xs.length by omega]⟩
          · refine ⟨xs, sqT_up s h1, ?_⟩
            rw [enuL_len]
            have l1 := h2.length
            omega
          · obtain ⟨T, x1, rfl, hT, rfl, f1⟩ := y
            obtain ⟨d1, g1, g2⟩ := h2.get' (f1 _ (sqT_up s h1))
            have gT : G1 T = none := Same.free s hT
            refine ⟨.tup [.int ((0 + i : Nat) : Int), d1], enuL_at g1, .inr ⟨T, _, hT, by (intro ps e; cases e), rfl, .tup (.inl (.inl upd_same)) (.cons ?_ (.cons (g2.up (same_new gT)) .nil))⟩⟩
            rw [Nat.zero_add]; exact .int _
        | _ => exact q.elim
end
end Dv
/-! enumerate over a range -/
namespace Dv
open PySem L2 PyProof.Rows
section
open PySem.Sem (wp)
open AutoSeq1 (wpAny_loadPart')
abbrev erO (i c : Int) (n : Int) : Obj := { cls := .type "range_iterator", data := .fields #[rawInt i, rawInt n, rawInt c] }
abbrev erH1 (h : Heap) (i j c : Int) : Heap := h.push (erO i c (Builtin.Range.rangeSize i j c))
abbrev erH2 (h : Heap) (i j c : Int) : Heap := (erH1 h i j c).push { cls := .type "enumerate", data := .fields #[.none, .bool false, .ref h.objs.size, rawInt 0, .none, .none] }
theorem meets_enumR (r : Addr) (i j c : Int) (t u v : Tok) (hs : Builtin.Range.small i j c = true) :
    Meets (Builtin.«enumerate.__new__» ⟨[.type "enumerate", .ref r], []⟩) (fun _ R s => IsRange s.heap r i j c t u v ∧ R (.ok (.ret (.ref (erH1 s.heap i j c).objs.size))) { s with heap := erH2 s.heap i j c }) :=
  .of_wp fun prog w A R s h => by
    obtain ⟨hp, g, d, tk, os⟩ := s
    obtain ⟨hT, h⟩ := h
    have hsub := sub_enumerate
    have ho : hp.get? r = some { cls := .type "range", dict := none, data := .fields #[.int i t, .int j u, .int c v], slots := #[] } := hT
    have hL : IsRange (Shared.heap ⟨hp, g, d, tk, os⟩) r i j c t u v := hT
    wp_walk using wpAny_loadPart' ho
    refine wpAny_stack_any fun st => wpAny_pure ?_
    split
    · rename_i cc _ _ _ _ _
      cases (cc == Value.type "enumerate") <;>
      · wp_walk using wpAny_loadPart' ho, wpAny_pyIter_range hL hs
        exact ⟨_, rfl, h⟩
    · wp_walk using wpAny_loadPart' ho, wpAny_pyIter_range hL hs
      exact ⟨_, rfl, h⟩
variable {prog : Program} {w : World} {A : Around} {E : Value → Shared → Prop} {s : Shared}
theorem call_enumR {r : Addr} {i j c : Int} {t u v : Tok} {Q : Value → Shared → Prop} (hT : IsRange s.heap r i j c t u v) (hs : Builtin.Range.small i j c = true)
    (h : ∀ h', IsEnum h' (s.heap.objs.size + 1) s.heap.objs.size 0 .none → IsRangeIter h' s.heap.objs.size i (Builtin.Range.rangeSize i j c) c → h'.objs.size = s.heap.objs.size + 2 →
      (∀ b o, s.heap.get? b = some o → h'.get? b = some o) → Q (.ref (s.heap.objs.size + 1)) { s with heap := h' }) :
    wpAny (model prog w) A (call (.type "enumerate") [.ref r]) Q E s := by
  refine callType_new F.called_enumerate (by decide) (F.typeCall_enumerate_1 _) (F.newCall_enumerate_1 _) (fun o => F.args_object_init_2 o _) F.entry_enumerate_new (meets_enumR r i j c t u v hs) ⟨hT, ?_⟩
  have hz : (erH1 s.heap i j c).objs.size = s.heap.objs.size + 1 := Heap.size_push ..
  show _ ∧ _
  rw [hz]
  have he : IsEnum (erH2 s.heap i j c) (s.heap.objs.size + 1) s.heap.objs.size 0 .none := by
    have q := Heap.get?_push_size (erH1 s.heap i j c) (o := { cls := .type "enumerate", data := .fields #[.none, .bool false, .ref s.heap.objs.size, rawInt 0, .none, .none] }) rfl
    rw [hz] at q; exact q
  refine ⟨⟨_, he, rfl⟩, h _ he (Heap.get?_push_of_some _ (Heap.get?_push_size _ rfl)) ?_ fun b o q => Heap.get?_push_of_some _ (Heap.get?_push_of_some _ q)⟩
  show (erH2 s.heap i j c).objs.size = _
  rw [Heap.size_push, hz]
theorem nextOf_range_item {it : Addr} {x left step : Int} {Q : Value → Shared → Prop} (hit : IsRangeIter s.heap it x left step) (hleft : 0 < left)
    (hQ : ∀ h', IsRangeIter h' it (x + step) (left - 1) step → Heap.SameBut it s.heap h' → Q (.int x s.toks) { s with heap := h', toks := s.toks + 1 }) :
    wpAny (model prog w) A (Builtin.SmallTypes.nextOf (.ref it)) Q E s := by
  unfold Builtin.SmallTypes.nextOf
  exact wpAny_bind (CpRep.range_item hit hleft fun h' hi sb => wpAny_pure (hQ h' hi sb))
theorem nextOf_range_end {it : Addr} {x left step : Int} {Q : Value → Shared → Prop} (hh : A.handled = none) (hit : IsRangeIter s.heap it x left step) (hleft : left ≤ 0)
    (hQ : ∀ e h', CpRep.StopE e h' → Heap.ExtBut it s.heap h' → E e { s with heap := h' }) : wpAny (model prog w) A (Builtin.SmallTypes.nextOf (.ref it)) Q E s := by
  unfold Builtin.SmallTypes.nextOf
  exact wpAny_bind (CpRep.range_end hh hit hleft hQ)
theorem enumR_next {e it : Addr} {i : Nat} {x left step : Int} {old : Value} {Q : Value → Shared → Prop}
    (he : IsEnum s.heap e it i old) (hit : IsRangeIter s.heap it x left step) (hlf : 0 < left) (hne : e ≠ it)
    (hQ : ∀ h', IsEnumOut h' e it ((i : Int) + 1) (.int x s.toks) s.heap.objs.size → IsRangeIter h' it (x + step) (left - 1) step →
      h'.get? s.heap.objs.size = some { cls := .type "tuple", data := .seq #[.int i (s.toks + 1), .int x s.toks] } → h'.objs.size = s.heap.objs.size + 1 →
      (∀ b o, b ≠ e → b ≠ it → s.heap.get? b = some o → h'.get? b = some o) → Q (.ref s.heap.objs.size) { s with heap := h', toks := s.toks + 2 }) :
    wpAny (model prog w) A (Builtin.«enumerate.__next__» ⟨[.ref e], []⟩) (fun fin s' => ∃ v, fin = .done (.ret v) ∧ Q v s') E s := by
  obtain ⟨hp, g, d, tk, os⟩ := s
  show wpAny _ _ (field (.ref e) 2 >>= _) _ _ _
  refine wpAny_bind (wpAny_field he rfl (x := .ref it) rfl ?_)
  refine wpAny_bind (nextOf_range_item hit hlf fun a1 b1 c1 => ?_)
  replace c1 : Heap.SameBut it hp a1 := c1
  have d1 : IsEnum a1 e it i old := (c1.2 e hne).trans he
  show wpAny _ _ (field (.ref e) 3 >>= _) _ _ ⟨a1, g, d, tk + 1, os⟩
  refine wpAny_bind (wpAny_field d1 rfl (x := rawInt i) rfl ?_)
  show wpAny _ _ (field (.ref e) 4 >>= _) _ _ ⟨a1, g, d, tk + 1, os⟩
  refine wpAny_bind (wpAny_field d1 rfl (x := .none) rfl ?_)
  show wpAny _ _ (mkInt i >>= _) _ _ ⟨a1, g, d, tk + 1, os⟩
  refine wpAny_bind (wpAny_mkInt ?_)
  show wpAny _ _ (setField (.ref e) 3 (rawInt ((i : Int) + 1)) >>= _) _ _ ⟨a1, g, d, tk + 2, os⟩
  refine wpAny_bind (wpAny_setField_rec d1 (by simp) fun a2 d2 c2 => ?_)
  replace c2 : Heap.SameBut e a1 a2 := c2
  replace d2 : IsEnum a2 e it ((i : Int) + 1) old := d2
  show wpAny _ _ (setField (.ref e) 4 .none >>= _) _ _ ⟨a2, g, d, tk + 2, os⟩
  refine wpAny_bind (wpAny_setField_rec d2 (by simp) fun a3 d3 c3 => ?_)
  replace c3 : Heap.SameBut e a2 a3 := c3
  replace d3 : IsEnum a3 e it ((i : Int) + 1) old := d3
  show wpAny _ _ (newTuple [.int i (tk + 1), .int x tk] >>= _) _ _ ⟨a3, g, d, tk + 2, os⟩
  refine wpAny_bind (wpAny_newTuple ?_)
  have d4 : IsEnum (a3.push { cls := .type "tuple", data := .seq #[.int i (tk + 1), .int x tk] }) e it ((i : Int) + 1) old := Heap.get?_push_of_some _ d3
  generalize hh4 : a3.push { cls := .type "tuple", data := .seq #[.int i (tk + 1), .int x tk] } = a4 at d4
  have hsz : a3.objs.size = hp.objs.size := by rw [c3.1, c2.1, c1.1]
  have hel : e < hp.objs.size := Heap.lt_size he
  have t4 : a4.get? hp.objs.size = some { cls := .type "tuple", data := .seq #[.int i (tk + 1), .int x tk] } := by rw [← hh4, ← hsz]; exact Heap.get?_push_size _ rfl
  have z4 : a4.objs.size = hp.objs.size + 1 := by rw [← hh4, Heap.size_push, hsz]
  have k4 : ∀ b o, b ≠ e → b ≠ it → hp.get? b = some o → a4.get? b = some o := fun b o hbe hbi hb => by
    rw [← hh4]; exact Heap.get?_push_of_some _ (c3.extBut b o hbe (c2.extBut b o hbe (c1.extBut b o hbi hb)))
  have i4 : IsRangeIter a4 it (x + step) (left - 1) step := by
    rw [← hh4]; exact Heap.get?_push_of_some _ (c3.extBut _ _ (Ne.symm hne) (c2.extBut _ _ (Ne.symm hne) b1))
  show wpAny _ _ (Builtin.SmallTypes.ownedTupleIsFree (.ref e) >>= _) _ _ ⟨a4, g, d, tk + 2, os⟩
  rw [hsz]
  clear hh4 d3 c3 d2 c2 d1 c1 b1 hsz a3 a2 a1
  refine wpAny_bind ?_
  · unfold Builtin.SmallTypes.ownedTupleIsFree
    refine wpAny_bind (wpAny_field d4 rfl (x := .none) rfl (wpAny_pure ?_))
    simp only [if_true]
    refine wpAny_bind (wpAny_rule ?_)
    refine wpAny_bind (wpAny_field d4 rfl (x := old) rfl ?_)
    refine wpAny_bind (wpAny_setField_rec d4 (by simp) fun a5 d5 c5 => ?_)
    replace c5 : Heap.SameBut e a4 a5 := c5
    replace d5 : IsEnum a5 e it ((i : Int) + 1) (.int x tk) := d5
    show wpAny _ _ (Builtin.SmallTypes.ownedTupleHandOut (.ref e) (.ref hp.objs.size) >>= _) _ _ ⟨a5, g, d, tk + 2, os⟩
    refine wpAny_bind ?_
    · unfold Builtin.SmallTypes.ownedTupleHandOut
      refine wpAny_bind (wpAny_setField_rec d5 (by simp) fun a6 d6 c6 => ?_)
      replace c6 : Heap.SameBut e a5 a6 := c6
      replace d6 : IsEnumOut a6 e it ((i : Int) + 1) (.int x tk) hp.objs.size := d6
      refine wpAny_setField_rec d6 (by simp) fun a7 d7 c7 => ?_
      replace c7 : Heap.SameBut e a6 a7 := c7
      replace d7 : IsEnumOut a7 e it ((i : Int) + 1) (.int x tk) hp.objs.size := d7
      refine wpAny_bind (wpAny_letGo (wpAny_pure ⟨_, rfl, hQ a7 d7 ?_ ?_ ?_ ?_⟩))
      · exact c7.extBut _ _ (Ne.symm hne) (c6.extBut _ _ (Ne.symm hne) (c5.extBut _ _ (Ne.symm hne) i4))
      · exact c7.extBut _ _ (Nat.ne_of_gt hel) (c6.extBut _ _ (Nat.ne_of_gt hel) (c5.extBut _ _ (Nat.ne_of_gt hel) t4))
      · rw [c7.1, c6.1, c5.1, z4]
      · exact fun b o hbe hbi hb => c7.extBut b o hbe (c6.extBut b o hbe (c5.extBut b o hbe (k4 b o hbe hbi hb)))
theorem pyNext_enumR {e it : Addr} {i : Nat} {x left step : Int} {old : Value} {Q : Option Value → Shared → Prop}
    (he : IsEnum s.heap e it i old) (hit : IsRangeIter s.heap it x left step) (hlf : 0 < left) (hne : e ≠ it)
    (hQ : ∀ h', IsEnumOut h' e it ((i : Int) + 1) (.int x s.toks) s.heap.objs.size → IsRangeIter h' it (x + step) (left - 1) step →
      h'.get? s.heap.objs.size = some { cls := .type "tuple", data := .seq #[.int i (s.toks + 1), .int x s.toks] } → h'.objs.size = s.heap.objs.size + 1 →
      (∀ b o, b ≠ e → b ≠ it → s.heap.get? b = some o → h'.get? b = some o) → Q (some (.ref s.heap.objs.size)) { s with heap := h', toks := s.toks + 2 }) :
    wpAny (model prog w) A (pyNext (.ref e)) Q E s := by
  have hT : s.TypeIs (.ref e) "enumerate" := ⟨_, he, rfl⟩
  unfold pyNext
  exact wpAny_bind (wpAny_attempt (wpAny_callSpecial?_slot (name := Str.ofString "__next__") hT F.slot_enumerate_next
    (wpAny_call_entry F.slot_enumerate_next hT F.entry_enumerate_next (enumR_next he hit hlf hne fun a a1 a2 a3 a4 a5 => wpAny_pure (hQ a a1 a2 a3 a4 a5)) (F.args_enumerate_next_1 _))))
theorem pyNext_enumR_end {e it : Addr} {i : Nat} {x left step : Int} {old : Value} {Q : Option Value → Shared → Prop} (hh : A.handled = none)
    (he : IsEnum s.heap e it i old) (hit : IsRangeIter s.heap it x left step) (hlf : left ≤ 0)
    (hQ : ∀ h', Heap.ExtBut it s.heap h' → Q none { s with heap := h' }) : wpAny (model prog w) A (pyNext (.ref e)) Q E s := by
  have hT : s.TypeIs (.ref e) "enumerate" := ⟨_, he, rfl⟩
  unfold pyNext
  refine wpAny_bind (wpAny_attempt (wpAny_callSpecial?_slot (name := Str.ofString "__next__") hT F.slot_enumerate_next
    (wpAny_call_entry F.slot_enumerate_next hT F.entry_enumerate_next ?_ (F.args_enumerate_next_1 _))))
  show wpAny _ _ (field (.ref e) 2 >>= _) _ _ _
  refine wpAny_bind (wpAny_field he rfl (x := .ref it) rfl ?_)
  refine wpAny_bind (nextOf_range_end hh hit hlf fun y h' st c1 => ?_)
  obtain ⟨a, o, vs, rfl, ho, hc, _, _⟩ := st
  exact wpAny_bind (wpAny_isInstance (T := "StopIteration") (b := true) ⟨o, ho, hc⟩ isSubtype_stop (wpAny_pure (hQ _ c1)))
end
/-- lo, lo + c, .. (n of them), each in a new pair -/
def ItR (lo c : Int) (n : Nat) : It :=
  ⟨fun i _ => i < n, fun i H v H' => ∃ T, v = .ref T ∧ H T = none ∧ H' = upd H T (.tup [.int (i : Nat), .int (lo + (i : Nat) * c)]), fun i _ => n ≤ i⟩
theorem turn_enR {P : Program} {w : World} {K : PySem.W.Frag} {elts : List Expr} {kk : Nat} {tpos : Pos} (lo c : Int) (n : Nat) (e it : Addr) :
    Turn P w K (.Tuple elts kk tpos) (ItR lo c n) [e, it] e (fun i h => (∃ old, IsEnum h e it ((i : Nat) : Int) old) ∧ IsRangeIter h it (lo + (i : Nat) * c) ((n : Int) - (i : Nat)) c ∧ e ≠ it) where
  mem := by simp
  obj := fun i h st b hb => by
    obtain ⟨⟨old, he⟩, ho, _⟩ := st
    have e' : b = e ∨ b = it := by simpa using hb
    rcases e' with z | z <;> rw [z]
    · exact ⟨_, he, fun v q => nomatch q⟩
    · exact ⟨_, ho, fun v q => nomatch q⟩
  keep := fun i h h' st k => let ⟨⟨old, he⟩, hi, hne⟩ := st; ⟨⟨old, k e (by simp) _ he⟩, k it (by simp) _ hi, hne⟩
  item := by
    intro X hP hw hK hc i pins s σ H E I hf st hg
    subst hP hw hK
    obtain ⟨⟨old, he⟩, hit, hne⟩ := st
    have hg' : i < n := hg
    have hel : e < s.heap.objs.size := Heap.lt_size he
    have hil : it < s.heap.objs.size := Heap.lt_size hit
    refine pyNext_enumR he hit (by omega) hne fun h' ho hit' hT hsz hk => ?_
    refine ⟨_, rfl, wpAny_letOwnedTupleGo_enum (s := { s with heap := h', toks := s.toks + 2 }) ho fun h'' he' sb => ?_⟩
    have hT2 : h''.get? s.heap.objs.size = some { cls := .type "tuple", data := .seq #[.int i (s.toks + 1), .int (lo + (i : Nat) * c) s.toks] } := (sb.2 _ (Nat.ne_of_gt hel)).trans hT
    have new : ObjOk X.prog X.w (upd H s.heap.objs.size (.tup [.int (i : Nat), .int (lo + (i : Nat) * c)])) h'' s.heap.objs.size (.tup [.int (i : Nat), .int (lo + (i : Nat) * c)]) :=
      ⟨by show 2 ≤ sizeLine; decide, [.int i (s.toks + 1), .int (lo + (i : Nat) * c) s.toks], .cons ⟨_, rfl⟩ (.cons ⟨_, rfl⟩ .nil), ⟨_, hT2, rfl, _, rfl⟩⟩
    have I1 : Inv X pins σ (upd H s.heap.objs.size (.tup [.int (i : Nat), .int (lo + (i : Nat) * c)])) { s with heap := h'', toks := s.toks + 2 } :=
      I.turnedNew (ch := [e, it]) (fun b ob hb q => (sb.2 b (fun z => hb (by simp [z]))).trans (hk b ob (fun z => hb (by simp [z])) (fun z => hb (by simp [z])) q)) hf (Nat.le_refl _) new
    refine ⟨.ref s.heap.objs.size, _, I1, rfl, ⟨_, rfl, I.hok.fresh (Nat.le_refl _), rfl⟩, ⟨⟨.int (lo + (i : Nat) * c) s.toks, ?_⟩, ?_, hne⟩, fun b hb => ?_⟩
    · have e1 : ((i + 1 : Nat) : Int) = (i : Int) + 1 := by omega
      rw [e1]; exact he'
    · have e1 : lo + ((i + 1 : Nat) : Int) * c = lo + (i : Nat) * c + c := by rw [show ((i + 1 : Nat) : Int) = (i : Int) + 1 by omega, Int.add_mul]; omega
      have e2 : (n : Int) - ((i + 1 : Nat) : Int) = (n : Int) - (i : Nat) - 1 := by omega
      rw [e1, e2]
      exact (sb.2 it (Ne.symm hne)).trans hit'
    · have hb' : b < s.heap.objs.size := by
        have e' : b = e ∨ b = it := by simpa using hb
        rcases e' with z | z <;> rw [z]
        · exact hel
        · exact hil
      rw [upd_ne (Nat.ne_of_lt hb')]
      exact (hf b hb).1
  done := by
    intro X hP hw hK hc i pins s σ H E I hf st hg
    subst hP hw hK
    obtain ⟨⟨old, he⟩, hit, hne⟩ := st
    have hg' : n ≤ i := hg
    obtain ⟨f0, f1, f2, f3, f4, f5⟩ := hf it (by simp)
    exact pyNext_enumR_end (I.ok.hd hc) he hit (by omega) fun h' eb => ⟨rfl, I.turned (t' := s.toks) (fun b o hb q => eb b o hb q) f0 f1 f3 f4 f5⟩
  self := fun A i s Q E st h => let ⟨⟨_, he⟩, _⟩ := st; wpAny_pyIter_enum he h
def iEnR (ta : TA) : TI := fun σ H R => ta σ H fun vs H1 => ∃ (i j c : Int) (n : Nat), vs = [.int i, .int j, .int c] ∧ RgC i j c n ∧ R (ItR i c n) H1
theorem pi_enR {X : Cx} {a b c : Expr} {ta : TA} {p pos tpos p2 pos2 : Pos} {elts : List Expr} {kk : Nat} (hg : Gl X "enumerate") (hm : X.mg "enumerate" = none) (hg2 : Gl X "range") (hm2 : X.mg "range" = none) (ha : PA X [a, b, c] ta)
    (hs : starEach [a, b, c] X.env = (false, eval a X.env) :: starEach [b, c] X.env) (hpl : (backTo pos2 (starEach [b, c] X.env)).any (·.1) = false) :
    PI X (.Tuple elts kk tpos) (.Call (.Name "enumerate" p) [.Call (.Name "range" p2) [a, b, c] [] pos2] [] pos) (iEnR ta) := by
  refine ⟨fun pins s σ H R I h => ?_⟩
  have hs1 : starEach [.Call (.Name "range" p2) [a, b, c] [] pos2] X.env = [(false, eval (.Call (.Name "range" p2) [a, b, c] [] pos2) X.env)] := rfl
  refine Call_ (ld_blt I hg hm boot_enumerate (PyProof.Rows.callWith_type1 ?_ hs1 rfl))
  rw [hs1]
  refine Calls.spliced_cons ?_
  refine Call_ (ld_blt I hg2 hm2 boot_range (PyProof.Rows.callWith_type1 (thn (ha.run pos2 pins s σ H _ I h) fun us s1 ⟨vs, H1, I1, r1, q1⟩ => ?_) hs hpl))
  obtain ⟨i, j, k, n, e, ⟨c0, c1, c2, c3⟩, q⟩ := q1
  subst e
  cases r1 with
  | cons r rr =>
    cases rr with
    | cons r' rr =>
      cases rr with
      | cons r'' rr =>
        cases rr
        obtain ⟨t, rfl⟩ := r
        obtain ⟨t', rfl⟩ := r'
        obtain ⟨t'', rfl⟩ := r''
        refine call_range_3 c0 ?_ (.inl (PyProof.noPylong_small c1))
        refine Calls.spliced_nil ?_
        have z1 : (s1.heap.push { cls := .type "range", data := .fields #[.int i t, .int j t', .int k t''] }).objs.size = s1.heap.objs.size + 1 := Heap.size_push ..
        have fr2 : ∀ b, b ∈ [(s1.heap.push { cls := .type "range", data := .fields #[.int i t, .int j t', .int k t''] }).objs.size + 1, (s1.heap.push { cls := .type "range", data := .fields #[.int i t, .int j t', .int k t''] }).objs.size] → FpOk X pins H1 b := fun b hb => by
          rw [z1] at hb
          have e' : b = s1.heap.objs.size + 1 + 1 ∨ b = s1.heap.objs.size + 1 := by simpa using hb
          have hle : s1.heap.objs.size ≤ b := by omega
          exact I1.fpOk hle (I1.hok.fresh hle)
        refine call_enumR (s := { s1 with heap := s1.heap.push { cls := .type "range", data := .fields #[.int i t, .int j t', .int k t''] }, toks := s1.toks }) (IsRange.new ..) c2 fun h' he hit hsz hk => wpAny_pyIter_enum he ?_
        rw [c3] at hit
        exact ⟨_, [_, _], _, _, H1, rfl, I1.kept (t' := s1.toks) fun b o e => hk b o (Heap.get?_push_of_some _ e), turn_enR i k n _ _, ⟨⟨.none, he⟩, by
          have e1 : i + ((0 : Nat) : Int) * k = i := by simp
          have e2 : (n : Int) - ((0 : Nat) : Int) = n := by simp
          rw [e1, e2]
          exact hit, Nat.succ_ne_self _⟩, fr2, q⟩
/-! ### the reading -/
def enuR : List D → Option (List D) := fun ds => (rng3 ds).map (enuL 0)
theorem walkD_enR {K : Frg} {G : Hp} {lo c : Int} {n : Nat} : WalkD K G (ItR lo c n) (enuL 0 (rangeL lo n c)) where
  goes := fun i H hi s => by
    show i < n
    rw [enuL_len] at hi
    simpa [rangeL] using hi
  stops := fun H s => by
    show n ≤ _
    rw [enuL_len]
    simp [rangeL]
  yields := fun i H x H' hi s y => by
    obtain ⟨T, rfl, hT, rfl⟩ := y
    rw [enuL_len] at hi
    have hi' : i < n := by simpa [rangeL] using hi
    have e : (rangeL lo n c)[i]? = some (.int (lo + (i : Nat) * c)) := by simp [rangeL, hi']
    have gT : G T = none := Same.free s hT
    refine ⟨.tup [.int ((0 + i : Nat) : Int), .int (lo + (i : Nat) * c)], enuL_at e, .inr ⟨T, _, hT, by (intro ps e; cases e), rfl, .tup (.inl (.inl upd_same)) (.cons ?_ (.cons (.int _) .nil))⟩⟩
    rw [Nat.zero_add]
    exact .int _
section
variable {F : Fx} {T : Tab} {N : List Str} {sc : Scope} {k : Nat} {X : Cx} {a b tg : Expr} {pos : Pos}
theorem i_enuR {c : Expr} {oa ob oc : Opd} {ta tb tc : TE} {p p2 pos2 tpos : Pos} {elts : List Expr} {kk : Nat} (xo : Xo F T N sc k X) (hf : ("enumerate" : Str) ∈ T.free) (hf2 : ("range" : Str) ∈ T.free) (gl : Gl X "enumerate") (gl2 : Gl X "range") (ha : Op1 F X a oa ta) (hb : Op1 F X b ob tb) (hc : Op1 F X c oc tc) (pa : plainE a = true) (pb : plainE b = true) (pc : plainE c = true) :
    PI X (.Tuple elts kk tpos) (.Call (.Name "enumerate" p) [.Call (.Name "range" p2) [a, b, c] [] pos2] [] pos) (rdI F (opI enuR [oa, ob, oc])) := by
  have h' : Ops F X [a, b, c] [oa, ob, oc] [ta, tb, tc] := .cons ha (.cons hb (.cons hc .nil))
  refine piI (pi_enR gl (xo.free _ hf) gl2 (xo.free _ hf2) (pa_list h' (by rw [List.all_cons, List.all_cons, List.all_cons, pa, pb, pc]; rfl)) (by rw [star_of pa] <;> rfl) (by rw [star_of pb, star_of pc] <;> rfl)) fun σ H R q => ?_
  refine opI_rd (r := fun vs H1 R => ∃ (i j c : Int) (n : Nat), vs = [.int i, .int j, .int c] ∧ RgC i j c n ∧ R (ItR i c n) H1) h' ?_ q
  intro G H σ ρ O xs ds zs R E va e w
  unfold enuR rng3 at e
  split at e
  · split at e
    · rename_i i j c hj
      cases e
      cases va with
      | cons v1 t =>
        cases t with
        | cons v2 t =>
          cases t with
          | cons v3 t =>
            cases t
            exact ⟨i, j, c, _, by rw [v1.int', v2.int', v3.int'], hj, w _ walkD_enR⟩
    · cases e
  · cases e
end
end Dv
namespace Dv
open PySem L2 PyProof.Rows
/-! ### targets -/
inductive Tg where
  | nm (i : Nat) | tp (ts : List Tg)
mutual
def bindT : Tg → D → En → Option En
  | .nm i, d, ρ => some (ρ.set i (.val d))
  | .tp ts, .tup ds, ρ => bindTs ts ds ρ
  | .tp ts, .lst ds, ρ => bindTs ts ds ρ
  | .tp _, _, _ => none
def bindTs : List Tg → List D → En → Option En
  | [], [], ρ => some ρ
  | t :: ts, d :: ds, ρ => (bindT t d ρ).bind fun ρ' => bindTs ts ds ρ'
  | _, _, _ => none
end
mutual
def tgSlots : Tg → List Nat
  | .nm i => [i]
  | .tp ts => tgsSlots ts
def tgsSlots : List Tg → List Nat
  | [] => []
  | t :: ts => tgSlots t ++ tgsSlots ts
end
section
variable {F : Fx} {T : Tab} {N : List Str} {sc : Scope} {k : Nat} {X : Cx} {e a b tg : Expr} {pos : Pos}
theorem Er.set {G H : Hp} {σ : L2.St} {ρ : En} {O : Nat → List Addr} (E : Er F G H σ ρ O) (i : Nat) {v : V} {d : D} (r : Rp F.K G v d) : Er F G H (σ.set i (some v)) (ρ.set i (.val d)) O := by
  have key : ∀ {j : Nat} {s : Sl}, (ρ.set i (.val d))[j]? = some s → (j = i ∧ s = .val d ∧ (σ.set i (some v))[j]? = some (some v)) ∨ (ρ[j]? = some s ∧ (σ.set i (some v))[j]? = σ[j]?) := fun {j s} z => by
    by_cases hj : j = i
    · subst hj
      by_cases hi : j < ρ.length
      · rw [List.getElem?_set_self hi] at z
        cases z
        exact .inl ⟨rfl, rfl, List.getElem?_set_self (by rw [← E.len]; exact hi)⟩
      · rw [List.getElem?_eq_none (by rw [List.length_set]; omega)] at z; cases z
    · rw [List.getElem?_set_ne (Ne.symm hj)] at z
      exact .inr ⟨z, List.getElem?_set_ne (Ne.symm hj)⟩
  refine ⟨by rw [List.length_set, List.length_set]; exact E.len, E.g0, E.h0, E.gh, E.new, fun j d' z => ?_, fun j d' z => ?_, fun j j2 d1 d2 ne z1 z2 => ?_, fun a o e => ?_, E.tab⟩
  · rcases key z with ⟨rfl, e, h⟩ | ⟨z, h⟩
    · cases e
      exact ⟨v, h, r⟩
    · rw [h]; exact E.val j d' z
  · rcases key z with ⟨rfl, e, h⟩ | ⟨z, h⟩
    · cases e
    · rw [h]; exact E.own j d' z
  · rcases key z1 with ⟨_, e, _⟩ | ⟨z1, _⟩
    · cases e
    · rcases key z2 with ⟨_, e, _⟩ | ⟨z2, _⟩
      · cases e
      · exact E.dis j j2 d1 d2 ne z1 z2
  · obtain ⟨h1, h2, h3⟩ := E.held a o e
    refine ⟨h1, h2, fun j d' z => ?_⟩
    rcases key z with ⟨_, e, _⟩ | ⟨z, _⟩
    · cases e
    · exact h3 j d' z
/-- own slots only go -/
def Fewer (ρ ρ' : En) : Prop := ∀ (j : Nat) (d : D), ρ'[j]? = some (Sl.own d) → ρ[j]? = some (Sl.own d)
theorem Fewer.rfl {ρ : En} : Fewer ρ ρ := fun _ _ h => h
theorem Fewer.trans {a b c : En} (h : Fewer a b) (h' : Fewer b c) : Fewer a c := fun j d z => h j d (h' j d z)
theorem fewer_set {ρ : En} {i : Nat} {s : Sl} (hs : ∀ d, s ≠ .own d) : Fewer ρ (ρ.set i s) := fun j d z => by
  by_cases hj : j = i
  · subst hj
    by_cases hi : j < ρ.length
    · rw [List.getElem?_set_self hi] at z
      cases z
      exact absurd rfl (hs d)
    · rw [List.getElem?_eq_none (by rw [List.length_set]; omega)] at z; cases z
  · rw [List.getElem?_set_ne (Ne.symm hj)] at z
    exact z
theorem Stp.ofF {ρ ρ' : En} {O : Nat → List Addr} {G H : Hp} (f : Fewer ρ ρ') : Stp ρ O G H ρ' O G H := ⟨Same.refl G⟩
theorem wipe_set {σ : L2.St} {i : Nat} {x : Option V} : ∀ {vs : List Nat}, i ∈ vs → wipe (σ.set i x) vs = wipe σ vs
  | v :: vs, h => by
    unfold wipe
    by_cases hv : i ∈ vs
    · rw [wipe_set hv]
    · have e : i = v := by
        rcases List.mem_cons.mp h with h | h
        · exact h
        · exact absurd h hv
      subst e
      have e2 : wipe (σ.set i x) vs = (wipe σ vs).set i x := by
        clear h
        induction vs with
        | nil => rfl
        | cons u us ih =>
          have hu : i ≠ u := fun q => hv (by rw [q]; exact List.mem_cons_self)
          have hus : i ∉ us := fun q => hv (List.mem_cons_of_mem _ q)
          unfold wipe
          rw [ih hus, List.set_comm _ _ (fun q => hu q)]
      rw [e2, List.set_set]
mutual
def gOf (K : Frg) : Tg → TG
  | .nm i => gName i
  | .tp ts => gSeq K ts.length (gsOf K ts)
def gsOf (K : Frg) : List Tg → TGs
  | [] => gNil
  | t :: ts => gCons (gOf K t) (gsOf K ts)
end
theorem wipe_wipe {σ σ' σ2 : L2.St} {vs : List Nat} (h : wipe σ' vs = wipe σ vs) (h2 : wipe σ2 vs = wipe σ' vs) : wipe σ2 vs = wipe σ vs := h2.trans h
mutual
theorem bind_ok : ∀ (t : Tg) {v σ G H ρ O d ρ'} {Q : L2.St → Hp → Prop}, Er F G H σ ρ O → Rp F.K G v d → bindT t d ρ = some ρ' →
    (∀ σ', Er F G H σ' ρ' O → (∀ vs : List Nat, (∀ i ∈ tgSlots t, i ∈ vs) → wipe σ' vs = wipe σ vs) → Q σ' H) → gOf F.K t v σ H Q
  | .nm i, v, σ, G, H, ρ, O, d, ρ', Q, E, r, e, w => by
    simp only [bindT, Option.some.injEq] at e
    subst e
    exact w _ (E.set i r) fun vs h => wipe_set (h i (by simp [tgSlots]))
  | .tp ts, v, σ, G, H, ρ, O, d, ρ', Q, E, r, e, w => by
    cases d <;> (try (simp only [bindT, reduceCtorEq] at e))
    all_goals rename_i ds
    · cases r with
      | tup h1 h2 =>
        refine .inl ⟨_, _, rfl, sqT_up E.gh h1, ?_, ?_⟩
        · rw [h2.length, binds_len ts e]
        · exact binds_ok ts E h2 e fun σ' E' wp => w σ' E' fun vs h => wp vs (by simpa [tgSlots] using h)
    · cases r with
      | lst h1 h2 =>
        refine .inr ⟨_, _, rfl, .inl (.inl (E.gh _ _ h1)), ?_, ?_⟩
        · rw [h2.length, binds_len ts e]
        · exact binds_ok ts E h2 e fun σ' E' wp => w σ' E' fun vs h => wp vs (by simpa [tgSlots] using h)
theorem binds_ok : ∀ (ts : List Tg) {vs' σ G H ρ O ds ρ'} {Q : L2.St → Hp → Prop}, Er F G H σ ρ O → RpAll F.K G vs' ds → bindTs ts ds ρ = some ρ' →
    (∀ σ', Er F G H σ' ρ' O → (∀ vs : List Nat, (∀ i ∈ tgsSlots ts, i ∈ vs) → wipe σ' vs = wipe σ vs) → Q σ' H) → gsOf F.K ts vs' σ H Q
  | [], vs', σ, G, H, ρ, O, ds, ρ', Q, E, r, e, w => by
    cases r with
    | nil =>
      simp only [bindTs, Option.some.injEq] at e
      subst e
      exact ⟨rfl, w σ E fun _ _ => rfl⟩
    | cons _ _ => simp [bindTs] at e
  | t :: ts, vs', σ, G, H, ρ, O, ds, ρ', Q, E, r, e, w => by
    cases r with
    | nil => simp [bindTs] at e
    | cons r1 r2 =>
      rename_i v vs1 d1 ds1
      simp only [bindTs] at e
      cases e1 : bindT t d1 ρ with
      | none => rw [e1] at e; cases e
      | some ρ1 =>
        rw [e1] at e
        refine ⟨_, _, rfl, bind_ok t E r1 e1 fun σ1 E1 wp1 => binds_ok ts E1 r2 e fun σ2 E2 wp2 => w σ2 E2 fun vs h => ?_⟩
        exact (wp2 vs fun i hi => h i (by simp [tgsSlots, hi])).trans (wp1 vs fun i hi => h i (by simp [tgsSlots, hi]))
theorem binds_len : ∀ (ts : List Tg) {ds : List D} {ρ ρ' : En}, bindTs ts ds ρ = some ρ' → ds.length = ts.length
  | [], [], _, _, _ => rfl
  | [], _ :: _, _, _, e => by simp [bindTs] at e
  | _ :: _, [], _, _, e => by simp [bindTs] at e
  | t :: ts, d :: ds, ρ, ρ', e => by
    simp only [bindTs] at e
    cases e1 : bindT t d ρ with
    | none => rw [e1] at e; cases e
    | some ρ1 =>
      rw [e1] at e
      rw [List.length_cons, List.length_cons, binds_len ts e]
end
def tgPlain : Expr → Bool
  | .Name _ _ => true
  | .Tuple _ _ _ => true
  | _ => false
theorem asg_each {e : Expr} {es : List Expr} {env : PySem.Env} (h : tgPlain e = true) : assignEach (e :: es) env = (false, assign e env) :: assignEach es env := by
  cases e <;> first | rfl | cases h
theorem asg_len {env : PySem.Env} : ∀ {es : List Expr}, es.all tgPlain = true → (assignEach es env).length = es.length ∧ (assignEach es env).findIdx? (·.1) = none
  | [], _ => ⟨rfl, rfl⟩
  | e :: es, h => by
    rw [List.all_cons, Bool.and_eq_true] at h
    obtain ⟨h1, h2⟩ := asg_len (env := env) h.2
    rw [asg_each h.1]
    refine ⟨by rw [List.length_cons, List.length_cons, h1], ?_⟩
    rw [List.findIdx?_cons, h2]
    rfl
theorem pg_nm {i : Nat} {x : Str} (hN : X.N.Nodup) (hi : X.N[i]? = some x) (hx : Loc X.env.scope x) (hf : X.fn x = true ∨ X.env.scope.names.lookup x = some .local) : PG X (.Name x pos) (gOf X.K (.nm i)) := pg_name hN hi hx hf
theorem pgs_c {es : List Expr} {t : Tg} {ts : List Tg} (h1 : PG X e (gOf X.K t)) (h2 : PGs X es (gsOf X.K ts)) (p : tgPlain e = true) : PGs X (e :: es) (gsOf X.K (t :: ts)) :=
  pgs_cons h1 h2 (by rw [asg_each p]; rfl)
theorem pg_tp {es : List Expr} {x1 : Nat} {ts : List Tg} (hc : X.calm = true) (h : PGs X es (gsOf X.K ts)) (p : es.all tgPlain = true) (hl : es.length = ts.length) : PG X (.Tuple es x1 pos) (gOf X.K (.tp ts)) :=
  pg_seq hc h ((asg_len p).1.trans hl) (asg_len p).2
end
end Dv
namespace Dv
open PySem L2 PyProof.Rows
/-! ### a comprehension's own slots -/
def wipeE : List Nat → En → En
  | [], ρ => ρ
  | v :: vs, ρ => (wipeE vs ρ).set v .no
def restore : List Nat → En → En → En
  | [], _, ρ => ρ
  | v :: vs, ρ1, ρ => (restore vs ρ1 ρ).set v ((ρ1[v]?).getD .no)
def freeSlots (vs : List Nat) (ρ : En) : Bool := vs.all fun v => match ρ[v]? with
  | some (.own _) => false
  | _ => true
theorem wipeE_len : ∀ (vs : List Nat) (ρ : En), (wipeE vs ρ).length = ρ.length
  | [], _ => rfl
  | v :: vs, ρ => by unfold wipeE; rw [List.length_set, wipeE_len vs]
theorem restore_len : ∀ (vs : List Nat) (ρ1 ρ : En), (restore vs ρ1 ρ).length = ρ.length
  | [], _, _ => rfl
  | v :: vs, ρ1, ρ => by unfold restore; rw [List.length_set, restore_len vs]
theorem wipeE_at : ∀ (vs : List Nat) {ρ : En} {j : Nat} {s : Sl}, (wipeE vs ρ)[j]? = some s → (s = .no) ∨ (j ∉ vs ∧ ρ[j]? = some s)
  | [], ρ, j, s, h => .inr ⟨by simp, h⟩
  | v :: vs, ρ, j, s, h => by
    unfold wipeE at h
    by_cases hj : j = v
    · subst hj
      by_cases hi : j < (wipeE vs ρ).length
      · rw [List.getElem?_set_self hi] at h; cases h; exact .inl rfl
      · rw [List.getElem?_eq_none (by rw [List.length_set]; omega)] at h; cases h
    · rw [List.getElem?_set_ne (Ne.symm hj)] at h
      rcases wipeE_at vs h with e | ⟨a, b⟩
      · exact .inl e
      · exact .inr ⟨by simp only [List.mem_cons, not_or]; exact ⟨hj, a⟩, b⟩
theorem restore_at : ∀ (vs : List Nat) {ρ1 ρ : En} {j : Nat} {s : Sl}, (restore vs ρ1 ρ)[j]? = some s → (j ∈ vs ∧ s = (ρ1[j]?).getD .no) ∨ (j ∉ vs ∧ ρ[j]? = some s)
  | [], ρ1, ρ, j, s, h => .inr ⟨by simp, h⟩
  | v :: vs, ρ1, ρ, j, s, h => by
    unfold restore at h
    by_cases hj : j = v
    · subst hj
      by_cases hi : j < (restore vs ρ1 ρ).length
      · rw [List.getElem?_set_self hi] at h; cases h; exact .inl ⟨List.mem_cons_self, rfl⟩
      · rw [List.getElem?_eq_none (by rw [List.length_set]; omega)] at h; cases h
    · rw [List.getElem?_set_ne (Ne.symm hj)] at h
      rcases restore_at vs h with ⟨e, e2⟩ | ⟨a, b⟩
      · exact .inl ⟨List.mem_cons_of_mem _ e, e2⟩
      · exact .inr ⟨by simp only [List.mem_cons, not_or]; exact ⟨hj, a⟩, b⟩
/-- the list of a comprehension, item by item -/
def compL (own : List Nat) (tg : Tg) (cond : M Bool) (elt : M D) : List D → M (List D)
  | [], ρ => .ok [] ρ
  | d :: ds, ρ => match bindT tg d ρ with
    | none => .bad
    | some ρ1 => (match cond ρ1 with
      | .ok true ρ2 => (match elt ρ2 with
        | .ok e ρ3 => (match compL own tg cond elt ds (wipeE own ρ3) with
          | .ok es ρ4 => .ok (e :: es) ρ4
          | .exc x ρ4 => .exc x ρ4
          | .bad => .bad)
        | _ => .bad)
      | .ok false ρ2 => compL own tg cond elt ds (wipeE own ρ2)
      | _ => .bad)
def compM (mi : M (List D)) (own : List Nat) (tg : Tg) (cond : M Bool) (elt : M D) : M D := fun ρ => (mi ρ).bind fun ds ρ1 =>
  if freeSlots own ρ1 = true ∧ ds.length ≤ 16000000 then
    (match compL own tg cond elt ds (wipeE own ρ1) with
    | .ok es ρ2 => .ok (.lst es) (restore own ρ1 ρ2)
    | _ => .bad)
  else .bad
def yesM : M Bool := fun ρ => .ok true ρ
/-- the same, objects held aside, no exception let out -/
abbrev Fx.in' (F : Fx) (B : Hp) : Fx := { F with B := B, W := fun _ _ _ _ => False }
section
variable {F : Fx} {T : Tab} {N : List Str} {sc : Scope} {k : Nat} {X : Cx} {e a b tg : Expr} {pos : Pos}
theorem Er.wiped {G H : Hp} {σ : L2.St} {ρ : En} {O : Nat → List Addr} (E : Er F G H σ ρ O) (vs : List Nat) : Er F G H (wipe σ vs) (wipeE vs ρ) O where
  len := by rw [wipeE_len, wipe_length]; exact E.len
  g0 := E.g0
  h0 := E.h0
  tab := E.tab
  gh := E.gh
  new := E.new
  val := fun i d q => by
    rcases wipeE_at vs q with e | ⟨hn, q⟩
    · cases e
    · rw [wipe_out hn]; exact E.val i d q
  own := fun i d q => by
    rcases wipeE_at vs q with e | ⟨hn, q⟩
    · cases e
    · rw [wipe_out hn]; exact E.own i d q
  dis := fun i j d e ne q1 q2 => by
    rcases wipeE_at vs q1 with z | ⟨_, q1⟩
    · cases z
    · rcases wipeE_at vs q2 with z | ⟨_, q2⟩
      · cases z
      · exact E.dis i j d e ne q1 q2
  held := fun a o e => by
    obtain ⟨h1, h2, h3⟩ := E.held a o e
    refine ⟨h1, h2, fun j d q => ?_⟩
    rcases wipeE_at vs q with z | ⟨_, q⟩
    · cases z
    · exact h3 j d q
theorem Er.aside {G H : Hp} {σ : L2.St} {ρ : En} {O : Nat → List Addr} (E : Er F G H σ ρ O) {B : Hp} {W : WX} (h : ∀ a o, B a = some o → H a = some o ∧ G a = none ∧ NotOwned ρ O a) (nb : NoTb B) : Er { F with B := B, W := W } G H σ ρ O :=
  ⟨E.len, E.g0, E.h0, E.gh, E.new, E.val, E.own, E.dis, h, ⟨E.tab.gt, nb, E.tab.tb⟩⟩
theorem Er.unwipe {G1 H1 G H : Hp} {σ : L2.St} {ρ1 ρ : En} {O1 O : Nat → List Addr} {vs : List Nat} {B : Hp} {W : WX} (E1 : Er F G1 H1 σ ρ1 O1) (fr : freeSlots vs ρ1 = true) (s : Same G1 G) (E : Er { F with B := B, W := W } G H (wipe σ vs) ρ O) (hB : ∀ a o, F.B a = some o → B a = some o) (hl : ρ.length = ρ1.length) :
    Er F G H σ (restore vs ρ1 ρ) O := by
  have notown : ∀ {j : Nat} {d : D}, (restore vs ρ1 ρ)[j]? = some (Sl.own d) → j ∉ vs ∧ ρ[j]? = some (Sl.own d) := fun {j d} q => by
    rcases restore_at vs q with ⟨m, e⟩ | h
    · have := List.all_eq_true.mp fr j m
      cases z : ρ1[j]? with
      | none => rw [z] at e; cases e
      | some s => rw [z] at e this; simp only [Option.getD_some] at e; subst e; simp at this
    · exact h
  refine ⟨by rw [restore_len, hl]; exact E1.len, E.g0, E.h0, E.gh, E.new, fun i d q => ?_, fun i d q => ?_, fun i j d e ne q1 q2 => E.dis i j d e ne (notown q1).2 (notown q2).2, fun a o e => ?_, ⟨E.tab.gt, E1.tab.bt, E.tab.tb⟩⟩
  · rcases restore_at vs q with ⟨m, e⟩ | ⟨m, q⟩
    · cases z : ρ1[i]? with
      | none => rw [z] at e; cases e
      | some s' =>
        rw [z] at e
        simp only [Option.getD_some] at e
        subst e
        obtain ⟨v, a, b⟩ := E1.val i d z
        exact ⟨v, a, b.up s⟩
    · obtain ⟨v, a, b⟩ := E.val i d q
      rw [wipe_out m] at a
      exact ⟨v, a, b⟩
  · obtain ⟨m, q⟩ := notown q
    obtain ⟨p, o, a, b⟩ := E.own i d q
    rw [wipe_out m] at a
    exact ⟨p, o, a, b⟩
  · obtain ⟨h1, h2, h3⟩ := E.held a o (hB a o e)
    exact ⟨h1, h2, fun j d q => h3 j d (notown q).2⟩
theorem wipe_none {σ : L2.St} {v : Nat} : ∀ {us : List Nat}, v ∈ us → (wipe σ us).set v none = wipe σ us
  | u :: us, h => by
    unfold wipe
    by_cases e : v = u
    · subst e; rw [List.set_set]
    · have h' : v ∈ us := by
        rcases List.mem_cons.mp h with h | h
        · exact absurd h e
        · exact h
      rw [List.set_comm _ _ (fun q => e q.symm), wipe_none h']
theorem wipe_idem {σ : L2.St} {us : List Nat} : ∀ {vs : List Nat}, (∀ v ∈ vs, v ∈ us) → wipe (wipe σ us) vs = wipe σ us
  | [], _ => rfl
  | v :: vs, h => by
    show (wipe (wipe σ us) vs).set v none = wipe σ us
    rw [wipe_idem fun x hx => h x (List.mem_cons_of_mem _ hx), wipe_none (h v List.mem_cons_self)]
/-- a comprehension's list -/
theorem lc_rd {mi : M (List D)} {own : List Nat} {t : Tg} {cond : M Bool} {elt : M D} {fr : Bool} (hsl : ∀ i ∈ tgSlots t, i ∈ own) {σ : L2.St} {H : Hp} {Q : VK} (q : rdE F (compM mi own t cond elt) true σ H Q) :
    tLc (rdI F mi) (gOf F.K t) (fun σ H Q => ∃ B, rdT (F.in' B) cond σ H Q) (fun σ H Q => ∃ B, rdE (F.in' B) elt fr σ H Q) own σ H Q := by
  obtain ⟨G, ρ, O, E, q⟩ := q
  refine ⟨G, ρ, O, E, ?_⟩
  unfold compM at q
  cases e1 : mi ρ with
  | bad => rw [e1] at q; exact q
  | exc x ρ1 => rw [e1] at q; exact q
  | ok ds ρ1 =>
    rw [e1] at q
    simp only [Dv.R.bind_ok] at q
    intro J G1 H1 O1 E1 s1 wJ DD hD
    split at q
    rotate_left
    · rename_i h2; split at h2 <;> (try (split at h2)) <;> cases h2
    · exact q.elim
    rename_i dd ρ' h2
    split at h2
    rotate_left
    · cases h2
    rename_i hg
    cases e2 : compL own t cond elt ds (wipeE own ρ1) with
    | bad => rw [e2] at h2; cases h2
    | exc x ρ2 => rw [e2] at h2; cases h2
    | ok total ρf =>
      rw [e2] at h2
      cases h2
      -- the invariant
      let W : Nat → Hp → Prop := fun i H => ∃ G ρ O acc accV es, Er (F.in' (upd F.B DD (.lst accV))) G H (wipe σ own) ρ O ∧ Same G1 G ∧ RpAll F.K G accV acc ∧ acc.length ≤ i ∧ ρ.length = ρ1.length ∧
        compL own t cond elt (ds.drop i) ρ = .ok es ρf ∧ acc ++ es = total
      have hB0 : F.B DD = none := E1.bnone hD
      have mk : ∀ {G H σ' ρ O accV}, Er F G H σ' ρ O → H DD = none → Er (F.in' (upd F.B DD (.lst accV))) G (upd H DD (.lst accV)) σ' ρ O := fun {G H σ' ρ O accV} E hn => by
        refine (E.fresh (o := .lst accV) hn).aside (fun a o e => ?_) (E.tab.bt.put fun ps e => nomatch e)
        by_cases ha : a = DD
        · subst ha
          rw [upd_same] at e
          cases e
          exact ⟨upd_same, E.gnone hn, E.notown hn⟩
        · rw [upd_ne ha] at e
          obtain ⟨h1, h2, h3⟩ := E.held a o e
          exact ⟨by rw [upd_ne ha]; exact h1, h2, h3⟩
      refine ⟨fun i m H => m = ds.length - i ∧ i ≤ ds.length ∧ W i H, ⟨ds.length, by simp, Nat.zero_le _, G1, wipeE own ρ1, O1, [], [], total, (mk E1 hD).wiped own, srfl, .nil, Nat.le_refl _, wipeE_len _ _, by rw [List.drop_zero]; exact e2, rfl⟩, ?_⟩
      rintro i m H ⟨rfl, hi, G2, ρ2, O2, acc, accV, es, E2, s2, ra, la, ll, ec, et⟩
      have sh : Same G1 H := s2.trans E2.gh
      by_cases hlt : i < ds.length
      · refine .inr ⟨wJ.goes i H hlt sh, fun H' => W (i + 1) H', fun H' w => ⟨ds.length - (i + 1), by omega, rfl, hlt, w⟩, fun x H' y => ?_⟩
        obtain ⟨d, hd, hy⟩ := wJ.yields i H x H' hlt sh y
        -- the item stands for good
        obtain ⟨G3, s3, E3, r3⟩ : ∃ G3, Same G2 G3 ∧ Er (F.in' (upd F.B DD (.lst accV))) G3 H' (wipe σ own) ρ2 O2 ∧ Rp F.K G3 x d := by
          rcases hy with ⟨rfl, r⟩ | ⟨p, o, hp, no, rfl, r⟩
          · exact ⟨G2, srfl, E2, r.up s2⟩
          · have gp := E2.gnone hp
            refine ⟨upd G2 p o, same_new gp, E2.froz hp no, r.up fun a u e => ?_⟩
            by_cases ha : a = p
            · subst ha; rw [upd_same] at e ⊢; exact e
            · rw [upd_ne ha] at e ⊢; exact s2 a u e
        have edrop : ds.drop i = d :: ds.drop (i + 1) := by
          have h5 : i < ds.length := hlt
          rw [List.drop_eq_getElem_cons h5]
          congr 1
          rw [List.getElem?_eq_getElem h5] at hd
          exact Option.some.inj hd
        rw [edrop] at ec
        simp only [compL] at ec
        cases e3 : bindT t d ρ2 with
        | none => rw [e3] at ec; cases ec
        | some ρ3 =>
          rw [e3] at ec
          refine bind_ok (F := F.in' (upd F.B DD (.lst accV))) t E3 r3 e3 fun σ' E4 wp => ?_
          have hw : wipe σ' own = wipe σ own := by rw [wp own hsl, wipe_idem fun _ h => h]
          have hlen : ∀ {G H ρ O accV}, Er (F.in' (upd F.B DD (.lst accV))) G H σ' ρ O → ρ.length = ρ1.length := fun E => by
            have h1 := E.len
            have h2 := E1.len
            have h3 : (wipe σ' own).length = (wipe σ own).length := by rw [hw]
            rw [wipe_length, wipe_length] at h3
            omega
          refine ⟨hw, upd F.B DD (.lst accV), G3, ρ3, O2, E4, ?_⟩
          simp only at ec
          cases e4 : cond ρ3 with
          | bad => rw [e4] at ec; cases ec
          | exc x ρ4 => rw [e4] at ec; cases ec
          | ok c ρ4 =>
            rw [e4] at ec
            intro G5 H5 O5 E5 s5
            cases c with
            | false =>
              simp only [Bool.false_eq_true, if_false] at ec ⊢
              refine ⟨G5, wipeE own ρ4, O5, acc, accV, es, ?_, (s2.trans s3).trans s5.g, ra.up (s3.trans s5.g), Nat.le_succ_of_le la, by rw [wipeE_len]; exact hlen E5, ec, et⟩
              rw [← hw]
              exact E5.wiped own
            | true =>
              simp only [if_true] at ec ⊢
              refine ⟨upd F.B DD (.lst accV), rdE_hold ⟨G5, ρ4, O5, E5, ?_⟩⟩
              cases e5 : elt ρ4 with
              | bad => rw [e5] at ec; cases ec
              | exc x ρ5 => rw [e5] at ec; cases ec
              | ok ed ρ5 =>
                rw [e5] at ec
                intro y G6 H6 O6 E6 s6 r6
                simp only at ec
                cases e6 : compL own t cond elt (ds.drop (i + 1)) (wipeE own ρ5) with
                | bad => rw [e6] at ec; cases ec
                | exc x ρ6 => rw [e6] at ec; cases ec
                | ok es' ρ6 =>
                  rw [e6] at ec
                  cases ec
                  obtain ⟨hh1, hh2, hh3⟩ := E6.held DD _ upd_same
                  have sG : Same G2 G6 := (s3.trans s5.g).trans s6.g
                  have ra6 : RpAll F.K G6 accV acc := ra.up sG
                  refine ⟨accV, hh1, ?_, ?_⟩
                  · rw [ra6.length, sizeLine_eq]
                    have := hg.2
                    omega
                  · refine ⟨G6, wipeE own ρ5, O6, acc ++ [ed], accV ++ [y], es', ?_, s2.trans sG, ra6.append (.cons r6 .nil), by rw [List.length_append]; simpa using la, by rw [wipeE_len]; exact hlen E6, e6, by rw [List.append_assoc]; exact et⟩
                    rw [← hw]
                    refine Er.wiped ?_ own
                    -- the accumulator grew
                    have ne : ∀ {a}, a ≠ DD → upd H6 DD (.lst (accV ++ [y])) a = H6 a := fun h => upd_ne h
                    have gne : ∀ a o, G6 a = some o → a ≠ DD := fun a o e z => by rw [z, hh2] at e; cases e
                    refine ⟨E6.len, E6.g0, E6.h0.put (E1.h0none hD), fun a o e => by rw [ne (gne a o e)]; exact E6.gh a o e, E6.new, E6.val, fun j d' z => ?_, E6.dis, fun a o e => ?_, ⟨E6.tab.gt, E1.tab.bt.put (fun ps e => nomatch e), fun P hP => (E6.tab.tb P hP).put hh1 (fun ps e => nomatch e)⟩⟩
                    · obtain ⟨p, o, g1, g2, g3, g4, g5⟩ := E6.own j d' z
                      have : p ≠ DD := fun q => hh3 j d' z (by rw [g2, q]; simp)
                      exact ⟨p, o, g1, g2, by rw [ne this]; exact g3, g4, g5⟩
                    · replace e : upd F.B DD (.lst (accV ++ [y])) a = some o := e
                      by_cases ha : a = DD
                      · subst ha
                        rw [upd_same] at e
                        cases e
                        exact ⟨upd_same, hh2, hh3⟩
                      · rw [upd_ne ha] at e
                        obtain ⟨g1, g2, g3⟩ := E6.held a o (show upd F.B DD (.lst accV) a = some o by rw [upd_ne ha]; exact e)
                        exact ⟨by rw [ne ha]; exact g1, g2, g3⟩
      · have ei : i = ds.length := by omega
        subst ei
        rw [List.drop_length] at ec
        simp only [compL] at ec
        cases ec
        rw [List.append_nil] at et
        subst et
        refine .inl ⟨wJ.stops H sh, ?_⟩
        obtain ⟨hh1, hh2, hh3⟩ := E2.held DD _ upd_same
        have Ef := Er.unwipe E1 hg.1 s2 E2 (fun a o e => by rw [upd_ne (ne_of_none e hB0)]; exact e) ll
        refine q _ G2 H O2 Ef (s1.trans (.ofG s2)) (.inl ⟨DD, _, rfl, rfl, hh1, hh2, E1.h0none hD, hB0, fun j d' z => ?_, .lst ra⟩)
        rcases restore_at own z with ⟨m, e⟩ | ⟨_, z⟩
        · have := List.all_eq_true.mp hg.1 j m
          cases z2 : ρ1[j]? with
          | none => rw [z2] at e; cases e
          | some s => rw [z2] at e this; simp only [Option.getD_some] at e; subst e; simp at this
        · exact hh3 j d' z
end
end Dv
namespace Dv
open PySem L2 PyProof.Rows
section
variable {F : Fx} {T : Tab} {N : List Str} {sc : Scope} {k : Nat} {X : Cx} {e a b tg : Expr} {pos : Pos}
theorem e_lc {elt iter : Expr} {ifs : List Expr} {scope : Scope} {own : List (Str × Nat)} {mi : M (List D)} {t : Tg} {cond : M Bool} {m : M D} {fr : Bool} (o : Xo F T N sc k X) (hh : T.hot = false) (hi : PI X tg iter (rdI F mi)) (ok : BlkOk X.N X.env.scope scope own)
    (hsl : ∀ i ∈ tgSlots t, i ∈ own.map (·.2)) (pi : plainE iter = true)
    (hg : ∀ (s : Shared) (H : Hp) (C : Addr) (cl : List (Str × Addr)) (fp : List Addr), PG (X.blk s H scope (compEnvC scope cl C X.env) fp) tg (gOf X.K t))
    (ht : ∀ (s : Shared) (H : Hp) (C : Addr) (cl : List (Str × Addr)) (fp : List Addr) (B : Hp), PTs (X.blk s H scope (compEnvC scope cl C X.env) fp) ifs (rdT (F.in' B) cond))
    (he : ∀ (s : Shared) (H : Hp) (C : Addr) (cl : List (Str × Addr)) (fp : List Addr) (B : Hp), PE (X.blk s H scope (compEnvC scope cl C X.env) fp) elt (rdE (F.in' B) m fr)) :
    PE X (.ListComp elt [⟨tg, iter, ifs, 0⟩] scope pos) (rdE F (compM mi (own.map (·.2)) t cond m) true) := by
  have nd : X.N.Nodup := by rw [o.hN]; exact o.nd
  refine peI (pe_lc (g := gOf X.K t) (tt := fun σ H Q => ∃ B, rdT (F.in' B) cond σ H Q) (te := fun σ H Q => ∃ B, rdE (F.in' B) m fr σ H Q) (o.calm hh) nd hi ok hg (fun s H C cl fp => ⟨fun pins s' σ H' Q I ⟨B, q⟩ => (ht s H C cl fp B).run pins s' σ H' Q I q⟩) (fun s H C cl fp => ⟨fun pins s' σ H' Q I ⟨B, q⟩ => (he s H C cl fp B).run pins s' σ H' Q I q⟩) ?_) fun σ H Q q => ?_
  · intro x
    cases iter <;> first | rfl | cases pi
  · rw [o.hK]
    exact lc_rd hsl q
/-! ### statements -/
inductive Fl where
  | nx | ret (d : D) | bk | ct
abbrev S := M Fl
def Post (F : Fx) (D : Ends) (G : Hp) : R Fl → Prop
  | .ok .nx ρ' => ∀ σ' G' H' O', Er F G' H' σ' ρ' O' → Same G G' → D.nx σ' H'
  | .ok (.ret d) ρ' => ∀ v σ' G' H' O', Er F G' H' σ' ρ' O' → Same G G' → Rv F G' H' ρ' O' true v d → D.rt v H'
  | .ok .bk ρ' => ∀ σ' G' H' O', Er F G' H' σ' ρ' O' → Same G G' → D.bk σ' H'
  | .ok .ct ρ' => ∀ σ' G' H' O', Er F G' H' σ' ρ' O' → Same G G' → D.ct σ' H'
  | .exc x ρ' => ∀ σ', Xc F σ' x ρ' G
  | .bad => False
theorem Post.up {D : Ends} {G G' : Hp} {r : R Fl} (h : Post F D G r) (s : Same G G') : Post F D G' r := by
  cases r with
  | ok f ρ =>
    cases f with
    | nx => exact fun σ' G2 H' O' E s2 => h σ' G2 H' O' E (s.trans s2)
    | ret d => exact fun v σ' G2 H' O' E s2 => h v σ' G2 H' O' E (s.trans s2)
    | bk => exact fun σ' G2 H' O' E s2 => h σ' G2 H' O' E (s.trans s2)
    | ct => exact fun σ' G2 H' O' E s2 => h σ' G2 H' O' E (s.trans s2)
  | exc x ρ => exact fun σ' => (h σ').up s
  | bad => exact h
def rdS (F : Fx) (s : S) : TS := fun D σ H => ∃ G ρ O, Er F G H σ ρ O ∧ Post F D G (s ρ)
/-- a part of a statement that gives a value, then the rest -/
theorem rdE_stmt {m : M D} {fr : Bool} {f : D → S} {D0 : Ends} {σ : L2.St} {H : Hp} {Q : VK} {G : Hp} {ρ : En} {O : Nat → List Addr} (E : Er F G H σ ρ O) (q : Post F D0 G ((m ρ).bind f))
    (h : ∀ v d ρ1 G1 H1 O1, Er F G1 H1 σ ρ1 O1 → Same G G1 → Rv F G1 H1 ρ1 O1 fr v d → Post F D0 G1 (f d ρ1) → Q v H1) : rdE F m fr σ H Q := by
  refine ⟨G, ρ, O, E, ?_⟩
  cases e1 : m ρ with
  | bad => rw [e1] at q; exact q
  | exc x ρ1 => rw [e1] at q; exact q σ
  | ok d ρ1 =>
    rw [e1] at q
    exact fun v G1 H1 O1 E1 s1 r1 => h v d ρ1 G1 H1 O1 E1 s1.g r1 (Post.up q s1.g)
theorem rdT_stmt {m : M Bool} {f : Bool → S} {D0 : Ends} {σ : L2.St} {H : Hp} {Q : Bool → Hp → Prop} {G : Hp} {ρ : En} {O : Nat → List Addr} (E : Er F G H σ ρ O) (q : Post F D0 G ((m ρ).bind f))
    (h : ∀ b ρ1 G1 H1 O1, Er F G1 H1 σ ρ1 O1 → Same G G1 → Post F D0 G1 (f b ρ1) → Q b H1) : rdT F m σ H Q := by
  refine ⟨G, ρ, O, E, ?_⟩
  cases e1 : m ρ with
  | bad => rw [e1] at q; exact q
  | exc x ρ1 => rw [e1] at q; exact q σ
  | ok d ρ1 =>
    rw [e1] at q
    exact fun G1 H1 O1 E1 s1 => h d ρ1 G1 H1 O1 E1 s1.g (Post.up q s1.g)
/-! ### blocks -/
def nxS : S := fun ρ => .ok .nx ρ
def bkS : S := fun ρ => .ok .bk ρ
def ctS : S := fun ρ => .ok .ct ρ
def seqS (s t : S) : S := fun ρ => match s ρ with
  | .ok .nx ρ' => t ρ'
  | r => r
theorem ss_nil : PSs X [] (rdS F nxS) := pssI pss_nil fun D σ H ⟨G, ρ, O, E, q⟩ => q σ G H O E srfl
theorem seq_rd {s t : S} {D : Ends} {σ : L2.St} {H : Hp} (q : rdS F (seqS s t) D σ H) : tSeq (rdS F s) (rdS F t) D σ H := by
  obtain ⟨G, ρ, O, E, q⟩ := q
  refine ⟨G, ρ, O, E, ?_⟩
  unfold seqS at q
  cases e : s ρ with
  | bad => rw [e] at q; exact q
  | exc x ρ' => rw [e] at q; exact q
  | ok f ρ' =>
    rw [e] at q
    cases f with
    | nx => exact fun σ' G' H' O' E' s' => ⟨G', ρ', O', E', Post.up q s'⟩
    | ret d => exact q
    | bk => exact q
    | ct => exact q
theorem ss_cons {st : Stmt} {rest : List Stmt} {s t : S} (h1 : PS X st (rdS F s)) (h2 : PSs X rest (rdS F t)) : PSs X (st :: rest) (rdS F (seqS s t)) := pssI (pss_cons h1 h2) fun _ _ _ q => seq_rd q
theorem ss_one {st : Stmt} {s : S} (h1 : PS X st (rdS F s)) : PSs X [st] (rdS F s) := pss_one h1
theorem s_pass : PS X (.Pass pos) (rdS F nxS) := psI ps_pass fun D σ H ⟨G, ρ, O, E, q⟩ => q σ G H O E srfl
theorem s_break : PS X (.Break pos) (rdS F bkS) := psI ps_break fun D σ H ⟨G, ρ, O, E, q⟩ => q σ G H O E srfl
theorem s_cont : PS X (.Continue pos) (rdS F ctS) := psI ps_continue fun D σ H ⟨G, ρ, O, E, q⟩ => q σ G H O E srfl
theorem s_doc {x : Str} {j : Nat} {pos' : Pos} : PS X (.Expr (.Constant (.str x) j pos) pos') (rdS F nxS) := psI ps_doc fun D σ H ⟨G, ρ, O, E, q⟩ => q σ G H O E srfl
/-! ### return -/
def retS (m : M D) (fr : Bool) : S := fun ρ => (m ρ).bind fun d ρ' => if fr = false ∧ isMut d = true then .bad else .ok (.ret d) ρ'
theorem s_ret {m : M D} {fr : Bool} (h : PE X e (rdE F m fr)) : PS X (.Return (some e) pos) (rdS F (retS m fr)) := by
  refine psI (ps_ret h) fun D σ H ⟨G, ρ, O, E, q⟩ => ?_
  refine rdE_stmt E q fun v d ρ1 G1 H1 O1 E1 s1 r1 q1 => ?_
  split at q1
  · exact q1.elim
  · rename_i hn
    refine q1 v σ G1 H1 O1 E1 srfl ?_
    cases fr with
    | true => exact r1
    | false =>
      rcases r1 with ⟨p, o, z, _⟩ | ⟨_, r1⟩
      · cases z
      · refine .inr ⟨fun _ => ?_, r1⟩
        cases z : isMut d with
        | false => rfl
        | true => exact absurd ⟨rfl, z⟩ hn
def retNS : S := fun ρ => .ok (.ret .non) ρ
theorem s_retN : PS X (.Return none pos) (rdS F retNS) := psI ps_retN fun D σ H ⟨G, ρ, O, E, q⟩ => q .non σ G H O E srfl rv_non
/-- the list that a slot owns goes out -/
def retV (i : Nat) : S := fun ρ => match ρ[i]? with
  | some (.val d) => if isMut d then .bad else .ok (.ret d) ρ
  | some (.own d) => .ok (.ret d) (ρ.set i .no)
  | _ => .bad
theorem Er.drop {G H : Hp} {σ : L2.St} {ρ : En} {O : Nat → List Addr} (E : Er F G H σ ρ O) (i : Nat) : Er F G H σ (ρ.set i .no) O := by
  have key : ∀ {j : Nat} {s : Sl}, (ρ.set i .no)[j]? = some s → s = .no ∨ (j ≠ i ∧ ρ[j]? = some s) := fun {j s} z => by
    by_cases hj : j = i
    · subst hj
      by_cases hi : j < ρ.length
      · rw [List.getElem?_set_self hi] at z; cases z; exact .inl rfl
      · rw [List.getElem?_eq_none (by rw [List.length_set]; omega)] at z; cases z
    · rw [List.getElem?_set_ne (Ne.symm hj)] at z
      exact .inr ⟨hj, z⟩
  refine ⟨by rw [List.length_set]; exact E.len, E.g0, E.h0, E.gh, E.new, fun j d z => ?_, fun j d z => ?_, fun j j2 d d2 ne z1 z2 => ?_, fun a o e => ?_, E.tab⟩
  · rcases key z with e | ⟨_, z⟩
    · cases e
    · exact E.val j d z
  · rcases key z with e | ⟨_, z⟩
    · cases e
    · exact E.own j d z
  · rcases key z1 with e | ⟨_, z1⟩
    · cases e
    · rcases key z2 with e | ⟨_, z2⟩
      · cases e
      · exact E.dis j j2 d d2 ne z1 z2
  · obtain ⟨h1, h2, h3⟩ := E.held a o e
    refine ⟨h1, h2, fun j d z => ?_⟩
    rcases key z with e | ⟨_, z⟩
    · cases e
    · exact h3 j d z
theorem s_retV {i : Nat} (h : PE X e (tVar i)) : PS X (.Return (some e) pos) (rdS F (retV i)) := by
  refine psI (ps_ret h) fun D σ H ⟨G, ρ, O, E, q⟩ => ?_
  unfold retV at q
  cases e1 : ρ[i]? with
  | none => rw [e1] at q; exact q.elim
  | some s =>
    rw [e1] at q
    cases s with
    | no => exact q.elim
    | val d =>
      obtain ⟨v, hv, r⟩ := E.val i d e1
      simp only at q
      cases z : isMut d with
      | true => rw [z] at q; exact q.elim
      | false =>
        rw [z] at q
        exact ⟨v, hv, q v σ G H O E srfl (.inr ⟨fun _ => z, r⟩)⟩
    | own d =>
      obtain ⟨p, o, h1, h2, h3, h4, h5, h6⟩ := E.own i d e1
      refine ⟨_, h1, q _ σ G H O (E.drop i) srfl (.inl ⟨p, o, rfl, rfl, h3, h4, h5, ?_, ?_, h6⟩)⟩
      · cases z : F.B p with
        | none => rfl
        | some u => exact absurd (show p ∈ O i by rw [h2]; simp) ((E.held p u z).2.2 i d e1)
      · intro j d' z hm
        by_cases hj : j = i
        · subst hj
          by_cases hi : j < ρ.length
          · rw [List.getElem?_set_self hi] at z; cases z
          · rw [List.getElem?_eq_none (by rw [List.length_set]; omega)] at z; cases z
        · rw [List.getElem?_set_ne (Ne.symm hj)] at z
          exact E.dis i j d d' (Ne.symm hj) e1 z p (by rw [h2]; simp) hm
/-! ### if -/
def ifS (c : M Bool) (s t : S) : S := fun ρ => (c ρ).bind fun b ρ' => if b = true then s ρ' else t ρ'
theorem s_if {c : Expr} {sa sb : List Stmt} {m : M Bool} {s t : S} (hc : PT X c (rdT F m)) (ha : PSs X sa (rdS F s)) (hb : PSs X sb (rdS F t)) : PS X (.If c sa sb pos) (rdS F (ifS m s t)) := by
  refine psI (ps_if hc ha hb) fun D σ H ⟨G, ρ, O, E, q⟩ => ?_
  refine rdT_stmt E q fun b ρ1 G1 H1 O1 E1 s1 q1 => ?_
  cases b with
  | true => exact ⟨G1, ρ1, O1, E1, q1⟩
  | false => exact ⟨G1, ρ1, O1, E1, q1⟩
/-! ### assignments -/
def slotOf (fr : Bool) (d : D) : Sl := if fr = true ∧ isMut d = true then .own d else .val d
def asgS (i : Nat) (m : M D) (fr : Bool) : S := fun ρ => (m ρ).bind fun d ρ' => .ok .nx (ρ'.set i (slotOf fr d))
theorem Er.setOwn {G H : Hp} {σ : L2.St} {ρ : En} {O : Nat → List Addr} (E : Er F G H σ ρ O) (i : Nat) {p : Addr} {o : HO} {d : D} (h1 : H p = some o) (h2 : G p = none) (h3 : F.H0 p = none) (hB : F.B p = none) (no : NotOwned ρ O p) (r : Own F.K G p o d) :
    Er F G H (σ.set i (some (.ref p))) (ρ.set i (.own d)) (fun j => if j = i then [p] else O j) := by
  have key : ∀ {j : Nat} {s : Sl}, (ρ.set i (.own d))[j]? = some s → (j = i ∧ s = .own d ∧ (σ.set i (some (.ref p)))[j]? = some (some (.ref p))) ∨ (j ≠ i ∧ ρ[j]? = some s ∧ (σ.set i (some (.ref p)))[j]? = σ[j]?) := fun {j s} z => by
    by_cases hj : j = i
    · subst hj
      by_cases hi : j < ρ.length
      · rw [List.getElem?_set_self hi] at z
        cases z
        exact .inl ⟨rfl, rfl, List.getElem?_set_self (by rw [← E.len]; exact hi)⟩
      · rw [List.getElem?_eq_none (by rw [List.length_set]; omega)] at z; cases z
    · rw [List.getElem?_set_ne (Ne.symm hj)] at z
      exact .inr ⟨hj, z, List.getElem?_set_ne (Ne.symm hj)⟩
  refine ⟨by rw [List.length_set, List.length_set]; exact E.len, E.g0, E.h0, E.gh, E.new, fun j d' z => ?_, fun j d' z => ?_, fun j j2 d1 d2 ne z1 z2 => ?_, fun a u e => ?_, E.tab⟩
  · rcases key z with ⟨rfl, e, h⟩ | ⟨_, z, h⟩
    · cases e
    · rw [h]; exact E.val j d' z
  · rcases key z with ⟨rfl, e, h⟩ | ⟨hj, z, h⟩
    · cases e
      exact ⟨p, o, h, if_pos rfl, h1, h2, h3, r⟩
    · rw [h]
      obtain ⟨q, u, g1, g2, g3⟩ := E.own j d' z
      exact ⟨q, u, g1, by rw [if_neg hj]; exact g2, g3⟩
  · intro a ha hb
    rcases key z1 with ⟨e1, e, _⟩ | ⟨hj, y1, _⟩
    · rcases key z2 with ⟨e2, e', _⟩ | ⟨hj2, y2, _⟩
      · exact absurd (e1.trans e2.symm) ne
      · simp only [e1, if_true] at ha
        simp only [hj2, if_false] at hb
        have : a = p := by simpa using ha
        subst this
        exact no j2 d2 y2 hb
    · rcases key z2 with ⟨e2, e', _⟩ | ⟨hj2, y2, _⟩
      · simp only [e2, if_true] at hb
        simp only [hj, if_false] at ha
        have : a = p := by simpa using hb
        subst this
        exact no j d1 y1 ha
      · simp only [hj, if_false] at ha
        simp only [hj2, if_false] at hb
        exact E.dis j j2 d1 d2 ne y1 y2 a ha hb
  · obtain ⟨g1, g2, g3⟩ := E.held a u e
    refine ⟨g1, g2, fun j d' z hm => ?_⟩
    rcases key z with ⟨e1, e', _⟩ | ⟨hj, z, _⟩
    · simp only [e1, if_true] at hm
      have : a = p := by simpa using hm
      rw [this, hB] at e
      cases e
    · simp only [hj, if_false] at hm
      exact g3 j d' z hm
/-- a value into a slot -/
theorem Er.put {G H : Hp} {σ : L2.St} {ρ : En} {O : Nat → List Addr} (E : Er F G H σ ρ O) (i : Nat) {v : V} {d : D} {fr : Bool} (r : Rv F G H ρ O fr v d) : ∃ O', Er F G H (σ.set i (some v)) (ρ.set i (slotOf fr d)) O' := by
  rcases r with ⟨p, o, hf, rfl, h1, h2, h3, hB, h4, h5⟩ | ⟨hm, h⟩
  · subst hf
    unfold slotOf
    rw [if_pos ⟨rfl, h5.mut⟩]
    exact ⟨_, E.setOwn i h1 h2 h3 hB h4 h5⟩
  · have : slotOf fr d = .val d := by
      unfold slotOf
      rw [if_neg]
      rintro ⟨a, b⟩
      rw [hm a] at b
      cases b
    rw [this]
    exact ⟨O, E.set i h⟩
theorem s_asg {i : Nat} {x : Str} {m : M D} {fr : Bool} {pos' : Pos} (hN : X.N.Nodup) (hi : X.N[i]? = some x) (hx : Loc X.env.scope x) (h : PE X e (rdE F m fr)) (hs : swapsWith e (some (.Name x pos')) pos.line X.env = pure false) (hf : X.fn x = true ∨ X.env.scope.names.lookup x = some .local) :
    PS X (.Assign [.Name x pos'] e pos) (rdS F (asgS i m fr)) := by
  refine psI (ps_set hN hi hx h hs hf) fun D σ H ⟨G, ρ, O, E, q⟩ => ?_
  refine rdE_stmt E q fun v d ρ1 G1 H1 O1 E1 s1 r1 q1 => ?_
  obtain ⟨O', E'⟩ := E1.put i r1
  exact q1 _ G1 H1 O' E' srfl
/-- a, b = e, e a tuple that is there -/
def untS (t : Tg) (m : M D) : S := fun ρ => (m ρ).bind fun d ρ' => match bindT t d ρ' with
  | some ρ2 => .ok .nx ρ2
  | none => .bad
theorem s_unt {t : Tg} {m : M D} {fr : Bool} (hK : X.K = F.K) (hg : PG X tg (gOf X.K t)) (h : PE X e (rdE F m fr)) (hs : swapsWithSole [tg] e pos.line X.env = pure false) (hw : swappedStores [tg] e X.env = pure none) (hp : tgPlain tg = true) : PS X (.Assign [tg] e pos) (rdS F (untS t m)) := by
  refine psI (ps_asg h hg hs hw (by rw [asg_each hp]; rfl)) fun D σ H ⟨G, ρ, O, E, q⟩ => ?_
  show rdE F m fr σ H fun x H1 => gOf X.K t x σ H1 D.nx
  refine rdE_stmt E q fun v d ρ1 G1 H1 O1 E1 s1 r1 q1 => ?_
  obtain ⟨G2, s2, E2, r2⟩ := E1.hold r1
  rw [hK]
  cases e1 : bindT t d ρ1 with
  | none => rw [e1] at q1; exact q1.elim
  | some ρ2 =>
    rw [e1] at q1
    exact bind_ok t E2 r2 e1 fun σ' E' _ => q1 σ' G2 H1 O1 E' s2
end
end Dv
namespace Dv
open PySem L2 PyProof.Rows
section
variable {F : Fx} {T : Tab} {N : List Str} {sc : Scope} {k : Nat} {X : Cx} {e a b tg : Expr} {pos : Pos}
/-! ### for -/
def forL (t : Tg) (s : S) : List D → S
  | [], ρ => .ok .nx ρ
  | d :: ds, ρ => match bindT t d ρ with
    | none => .bad
    | some ρ1 => (match s ρ1 with
      | .ok .nx ρ2 => forL t s ds ρ2
      | .ok .ct ρ2 => forL t s ds ρ2
      | .ok .bk ρ2 => .ok .nx ρ2
      | .ok (.ret d) ρ2 => .ok (.ret d) ρ2
      | .exc x ρ2 => .exc x ρ2
      | .bad => .bad)
def forS (mi : M (List D)) (t : Tg) (s : S) : S := fun ρ => (mi ρ).bind fun ds ρ1 => forL t s ds ρ1
theorem Er.item {G H H' : Hp} {σ : L2.St} {ρ : En} {O : Nat → List Addr} {G1 : Hp} {x : V} {d : D} (E : Er F G H σ ρ O) (s : Same G1 G) (hy : (H' = H ∧ Rp F.K G1 x d) ∨ ∃ p o, H p = none ∧ noT o ∧ H' = upd H p o ∧ Rp F.K (upd G1 p o) x d) :
    ∃ G3, Same G G3 ∧ Er F G3 H' σ ρ O ∧ Rp F.K G3 x d := by
  rcases hy with ⟨rfl, r⟩ | ⟨p, o, hp, no, rfl, r⟩
  · exact ⟨G, srfl, E, r.up s⟩
  · have gp := E.gnone hp
    refine ⟨upd G p o, same_new gp, E.froz hp no, r.up fun a u e => ?_⟩
    by_cases ha : a = p
    · subst ha; rw [upd_same] at e ⊢; exact e
    · rw [upd_ne ha] at e ⊢; exact s a u e
theorem for_rd {mi : M (List D)} {t : Tg} {s : S} {D0 : Ends} {σ : L2.St} {H : Hp} (q : rdS F (forS mi t s) D0 σ H) : tFor (rdI F mi) (gOf F.K t) (rdS F s) D0 σ H := by
  obtain ⟨G, ρ, O, E, q⟩ := q
  refine ⟨G, ρ, O, E, ?_⟩
  unfold forS at q
  cases e1 : mi ρ with
  | bad => rw [e1] at q; exact q
  | exc x ρ1 => rw [e1] at q; exact q σ
  | ok ds ρ1 =>
    rw [e1] at q
    simp only [Dv.R.bind_ok] at q
    intro J G1 H1 O1 E1 s1 wJ
    replace q := Post.up q s1.g
    refine ⟨fun i m σ H => m = ds.length - i ∧ i ≤ ds.length ∧ ∃ G ρ O, Er F G H σ ρ O ∧ Same G1 G ∧ Post F D0 G (forL t s (ds.drop i) ρ), ⟨ds.length, by simp, Nat.zero_le _, G1, ρ1, O1, E1, srfl, by rw [List.drop_zero]; exact q⟩, ?_⟩
    rintro i m σ2 H2 ⟨rfl, hi, G2, ρ2, O2, E2, s2, q2⟩
    have sh : Same G1 H2 := s2.trans E2.gh
    by_cases hlt : i < ds.length
    · refine .inr ⟨wJ.goes i H2 hlt sh, fun σ' H' => ∃ G ρ O, Er F G H' σ' ρ O ∧ Same G1 G ∧ Post F D0 G (forL t s (ds.drop (i + 1)) ρ), fun σ' H' w => ⟨ds.length - (i + 1), by omega, rfl, hlt, w⟩, fun x H' y => ?_⟩
      obtain ⟨d, hd, hy⟩ := wJ.yields i H2 x H' hlt sh y
      obtain ⟨G3, s3, E3, r3⟩ := E2.item s2 hy
      have edrop : ds.drop i = d :: ds.drop (i + 1) := by
        rw [List.drop_eq_getElem_cons hlt]
        congr 1
        rw [List.getElem?_eq_getElem hlt] at hd
        exact Option.some.inj hd
      rw [edrop] at q2
      simp only [forL] at q2
      cases e3 : bindT t d ρ2 with
      | none => rw [e3] at q2; exact q2.elim
      | some ρ3 =>
        rw [e3] at q2
        simp only at q2
        refine bind_ok t E3 r3 e3 fun σ' E4 _ => ⟨G3, ρ3, O2, E4, ?_⟩
        replace q2 := Post.up q2 s3
        cases e4 : s ρ3 with
        | bad => rw [e4] at q2; exact q2
        | exc x ρ4 => rw [e4] at q2; exact q2
        | ok f ρ4 =>
          rw [e4] at q2
          cases f with
          | nx => exact fun σ5 G5 H5 O5 E5 s5 => ⟨G5, ρ4, O5, E5, (s2.trans s3).trans s5, Post.up q2 s5⟩
          | ct => exact fun σ5 G5 H5 O5 E5 s5 => ⟨G5, ρ4, O5, E5, (s2.trans s3).trans s5, Post.up q2 s5⟩
          | bk => exact q2
          | ret d => exact q2
    · have ei : i = ds.length := by omega
      subst ei
      rw [List.drop_length] at q2
      exact .inl ⟨wJ.stops H2 sh, q2 σ2 G2 H2 O2 E2 srfl⟩
theorem s_for {iter : Expr} {body : List Stmt} {mi : M (List D)} {t : Tg} {s : S} (hK : X.K = F.K) (hp : PassesOwn (model X.prog X.w) X.A X.env X.xe) (hc : X.calm = true) (hi : PI X tg iter (rdI F mi)) (hg : PG X tg (gOf X.K t)) (hb : PSs X body (rdS F s)) (pi : plainE iter = true) :
    PS X (.For tg iter body [] pos) (rdS F (forS mi t s)) := by
  refine psI (ps_for hp hc hi hg hb ?_) fun D σ H q => ?_
  · intro x
    cases iter <;> first | rfl | cases pi
  · rw [hK]
    exact for_rd q
/-! ### while -/
def whileL (c : M Bool) (s : S) : Nat → S
  | 0, _ => .bad
  | n + 1, ρ => (c ρ).bind fun b ρ1 => if b = true then (match s ρ1 with
      | .ok .nx ρ2 => whileL c s n ρ2
      | .ok .ct ρ2 => whileL c s n ρ2
      | .ok .bk ρ2 => .ok .nx ρ2
      | .ok (.ret d) ρ2 => .ok (.ret d) ρ2
      | .exc x ρ2 => .exc x ρ2
      | .bad => .bad) else .ok .nx ρ1
/-- as many turns as one likes -/
def whileS (c : M Bool) (s : S) : S := whileL c s 1000000000
theorem while_rd {c : M Bool} {s : S} {n : Nat} {D0 : Ends} {σ : L2.St} {H : Hp} (q : rdS F (whileL c s n) D0 σ H) : tWhile (rdT F c) (rdS F s) D0 σ H := by
  refine ⟨fun m σ H => rdS F (whileL c s m) D0 σ H, ⟨n, q⟩, ?_⟩
  rintro m σ H ⟨G, ρ, O, E, q⟩
  cases m with
  | zero => exact q.elim
  | succ m =>
    simp only [whileL] at q
    refine rdT_stmt (f := fun b ρ1 => if b = true then (match s ρ1 with
      | .ok .nx ρ2 => whileL c s m ρ2
      | .ok .ct ρ2 => whileL c s m ρ2
      | .ok .bk ρ2 => .ok .nx ρ2
      | .ok (.ret d) ρ2 => .ok (.ret d) ρ2
      | .exc x ρ2 => .exc x ρ2
      | .bad => .bad) else .ok .nx ρ1) E q fun b ρ1 G1 H1 O1 E1 s1 q1 => ?_
    cases b with
    | false => exact q1 σ G1 H1 O1 E1 srfl
    | true =>
      simp only [if_true] at q1 ⊢
      refine ⟨fun σ' H' => rdS F (whileL c s m) D0 σ' H', fun σ' H' w => ⟨m, Nat.lt_succ_self m, w⟩, G1, ρ1, O1, E1, ?_⟩
      cases e4 : s ρ1 with
      | bad => rw [e4] at q1; exact q1
      | exc x ρ4 => rw [e4] at q1; exact q1
      | ok f ρ4 =>
        rw [e4] at q1
        cases f with
        | nx => exact fun σ5 G5 H5 O5 E5 s5 => ⟨G5, ρ4, O5, E5, Post.up q1 s5⟩
        | ct => exact fun σ5 G5 H5 O5 E5 s5 => ⟨G5, ρ4, O5, E5, Post.up q1 s5⟩
        | bk => exact q1
        | ret d => exact q1
theorem s_while {c : Expr} {body : List Stmt} {m : M Bool} {s : S} (hp : PassesOwn (model X.prog X.w) X.A X.env X.xe) (hc : PT X c (rdT F m)) (hb : PSs X body (rdS F s)) : PS X (.While c body [] pos) (rdS F (whileS m s)) :=
  psI (ps_while hp hc hb) fun _ _ _ q => while_rd q
/-! ### a slot's own list changes -/
theorem Er.change {G H : Hp} {σ : L2.St} {ρ : En} {O : Nat → List Addr} (E : Er F G H σ ρ O) {i : Nat} {p : Addr} {d d' : D} {o' : HO} (q : ρ[i]? = some (.own d)) (hO : O i = [p]) (hs : σ[i]? = some (some (.ref p))) (hG : G p = none) (h0 : F.H0 p = none) (r : Own F.K G p o' d') :
    Er F G (upd H p o') σ (ρ.set i (.own d')) O := by
  have hi : i < ρ.length := by
    rcases Nat.lt_or_ge i ρ.length with h | h
    · exact h
    · rw [List.getElem?_eq_none h] at q; cases q
  have key : ∀ {j : Nat} {s : Sl}, (ρ.set i (.own d'))[j]? = some s → (j = i ∧ s = .own d') ∨ (j ≠ i ∧ ρ[j]? = some s) := fun {j s} z => by
    by_cases hj : j = i
    · subst hj
      rw [List.getElem?_set_self hi] at z
      cases z
      exact .inl ⟨rfl, rfl⟩
    · rw [List.getElem?_set_ne (Ne.symm hj)] at z
      exact .inr ⟨hj, z⟩
  have old : ∀ {j : Nat} {d2 : D}, (ρ.set i (.own d'))[j]? = some (Sl.own d2) → ∃ d3, ρ[j]? = some (Sl.own d3) := fun {j d2} z => by
    rcases key z with ⟨e, _⟩ | ⟨_, z⟩
    · rw [e]; exact ⟨d, q⟩
    · exact ⟨d2, z⟩
  have tb : ∀ P ∈ F.XR.tabs, TabT (upd H p o') P := fun P hP => by
    obtain ⟨p2, o2, _, g2, g3, _, _, g6⟩ := E.own i d q
    rw [hO] at g2
    have e2 : p = p2 := by simpa using g2
    subst e2
    exact (E.tab.tb P hP).put g3 g6.noT
  refine ⟨by rw [List.length_set]; exact E.len, E.g0, E.h0.put h0, fun a o e => ?_, E.new, fun j d2 z => ?_, fun j d2 z => ?_, fun j j2 d1 d2 ne z1 z2 => ?_, fun a u e => ?_, ⟨E.tab.gt, E.tab.bt, tb⟩⟩
  · have : a ≠ p := fun z => by rw [z, hG] at e; cases e
    rw [upd_ne this]; exact E.gh a o e
  · rcases key z with ⟨_, e⟩ | ⟨_, z⟩
    · cases e
    · exact E.val j d2 z
  · rcases key z with ⟨e, e2⟩ | ⟨hj, z⟩
    · cases e2
      rw [e]
      exact ⟨p, o', hs, hO, upd_same, hG, h0, r⟩
    · obtain ⟨p2, o2, g1, g2, g3, g4, g5, g6⟩ := E.own j d2 z
      have : p2 ≠ p := fun z2 => E.dis i j d d2 (Ne.symm hj) q z p (by rw [hO]; simp) (by rw [g2, z2]; simp)
      exact ⟨p2, o2, g1, g2, by rw [upd_ne this]; exact g3, g4, g5, g6⟩
  · obtain ⟨d3, z1⟩ := old z1
    obtain ⟨d4, z2⟩ := old z2
    exact E.dis j j2 d3 d4 ne z1 z2
  · obtain ⟨g1, g2, g3⟩ := E.held a u e
    have : a ≠ p := fun z => g3 i d q (by rw [hO, z]; simp)
    refine ⟨by rw [upd_ne this]; exact g1, g2, fun j d2 z => ?_⟩
    obtain ⟨d3, z⟩ := old z
    exact g3 j d3 z
/-- x.append(e) -/
def appS (i : Nat) (m : M D) : S := fun ρ => match ρ[i]? with
  | some (.own (.lst _)) => (m ρ).bind fun d ρ' => (match ρ'[i]? with
    | some (.own (.lst ds)) => if ds.length ≤ 16000000 then .ok .nx (ρ'.set i (.own (.lst (ds ++ [d])))) else .bad
    | _ => .bad)
  | _ => .bad
theorem s_app {o : Expr} {i : Nat} {m : M D} {fr : Bool} {apos cpos spos : Pos} (hK : X.K = F.K) (ho : PE X o (tVar i)) (po : plainBase o = true) (h : PE X e (rdE F m fr)) (pe : plainE e = true) (hline : (apos.endLine == cpos.line) = true) :
    PS X (.Expr (.Call (.Attribute o "append" apos) [e] [] cpos) spos) (rdS F (appS i m)) := by
  have pa : PA X [e] (tCons (rdE F m fr) tNil) := pa_cons h pa_nil (star_of pe _ _)
  have hstar : starEach [e] X.env = (false, eval e X.env) :: starEach [] X.env := star_of pe _ _
  refine psI (ps_expr (pe_bm PySem.F.plainAttrs_list PySem.F.slot_list_append PySem.F.type_list_append mt_append ho pa (base_of po) ?_ hline hstar rfl) rfl) fun D σ H ⟨G, ρ, O, E, q⟩ => ?_
  · rw [hstar]; rfl
  · unfold appS at q
    split at q
    rotate_left
    · exact q.elim
    rename_i ds0 hi
    obtain ⟨p, o1, h1, h2, h3, h4, h5, h6⟩ := E.own i _ hi
    cases h6
    rename_i vs0 hr0
    refine ⟨.ref p, h1, .inl ⟨rfl, _, .inl (.inl h3)⟩, ?_⟩
    show rdE F m fr σ H fun y H2 => rAppend (.ref p) [y] H2 fun _ H1 => D.nx σ H1
    refine rdE_stmt E q fun v d ρ1 G1 H1 O1 E1 s1 r1 q1 => ?_
    obtain ⟨G2, s2, E2, r2⟩ := E1.hold r1
    split at q1
    rotate_left
    · exact q1.elim
    rename_i ds hi1
    split at q1
    rotate_left
    · exact q1.elim
    rename_i hz
    obtain ⟨p', o2, g1, g2, g3, g4, g5, g6⟩ := E2.own i _ hi1
    rw [h1] at g1
    cases g1
    cases g6
    rename_i vs hr
    refine ⟨p, vs, v, rfl, rfl, g3, by rw [hr.length, sizeLine_eq]; omega, ?_⟩
    exact q1 σ G2 _ O1 (E2.change hi1 g2 h1 g4 g5 (.lst (hr.append (.cons r2 .nil)))) s2
end
end Dv
namespace Dv
open PySem L2 PyProof.Rows
section
variable {F : Fx} {T : Tab} {N : List Str} {sc : Scope} {k : Nat} {X : Cx} {e a b tg : Expr} {pos : Pos}
/-! ### several names at once -/
structure PIt where
  i : Nat
  m : M D
  fr : Bool
def parL : List PIt → En → R Unit
  | [], ρ => .ok () ρ
  | q :: r, ρ => (q.m ρ).bind fun d ρ1 => match parL r ρ1 with
    | .ok _ ρ2 => .ok () (ρ2.set q.i (slotOf q.fr d))
    | .exc x ρ2 => .exc x ρ2
    | .bad => .bad
def setR : List Nat → List V → L2.St → L2.St
  | i :: is, v :: vs, σ => (setR is vs σ).set i (some v)
  | _, _, σ => σ
abbrev Fx.asd (F : Fx) (B : Hp) : Fx := { F with B := B }
def tAny (F : Fx) (q : PIt) : TE := fun σ H Q => ∃ B, rdE (F.asd B) q.m q.fr σ H Q
theorem par_rd : ∀ (items : List PIt) (B : Hp) {G H : Hp} {σ : L2.St} {ρ : En} {O : Nat → List Addr} {Q : List V → Hp → Prop}, Er (F.asd B) G H σ ρ O → (match parL items ρ with
    | .ok _ ρ' => ∀ vs G' H' O', Er (F.asd B) G' H' (setR (items.map (·.i)) vs σ) ρ' O' → vs.length = items.length → Same G G' → Q vs H'
    | .exc x ρ' => Xc (F.asd B) σ x ρ' G
    | .bad => False) → tList (items.map (tAny F)) σ H Q
  | [], B, G, H, σ, ρ, O, Q, E, h => h [] G H O E rfl srfl
  | q :: r, B, G, H, σ, ρ, O, Q, E, h => by
    refine ⟨B, G, ρ, O, E, ?_⟩
    simp only [parL] at h
    cases e1 : q.m ρ with
    | bad => rw [e1] at h; exact h
    | exc x ρ1 => rw [e1] at h; exact h
    | ok d ρ1 =>
      rw [e1] at h
      intro v G1 H1 O1 E1 s1 r1
      simp only [Dv.R.bind_ok] at h
      -- what was just made is held aside
      have nB : NoTb B := E1.tab.bt
      obtain ⟨B1, hB, E1', pd⟩ : ∃ B1 : Hp, (∀ a o, B a = some o → B1 a = some o) ∧ Er (F.asd B1) G1 H1 σ ρ1 O1 ∧
          ((∃ p o, q.fr = true ∧ v = .ref p ∧ B1 p = some o ∧ B p = none ∧ F.H0 p = none ∧ Own F.K G1 p o d) ∨ ((q.fr = true → isMut d = false) ∧ Rp F.K G1 v d)) := by
        rcases r1 with ⟨p, o, hf, rfl, h1, h2, h3, h4, h5, h6⟩ | ⟨hm, hr⟩
        · refine ⟨upd B p o, fun a u z => ?_, E1.aside (fun a u z => ?_) (E1.tab.bt.put h6.noT), .inl ⟨p, o, hf, rfl, upd_same, h4, h3, h6⟩⟩
          · rw [upd_ne (ne_of_none z h4)]; exact z
          · by_cases ha : a = p
            · subst ha
              rw [upd_same] at z
              cases z
              exact ⟨h1, h2, h5⟩
            · rw [upd_ne ha] at z
              exact E1.held a u z
        · exact ⟨B, fun _ _ z => z, E1, .inr ⟨hm, hr⟩⟩
      refine par_rd r B1 (Q := fun vs H' => Q (v :: vs) H') E1' ?_
      cases e2 : parL r ρ1 with
      | bad => rw [e2] at h; exact h
      | exc x ρ2 =>
        rw [e2] at h
        exact fun c dx G' H' O' E' s xr => h c dx G' H' O' (E'.aside (fun a u z => E'.held a u (hB a u z)) nB) (s1.g.trans s) xr
      | ok _ ρ2 =>
        rw [e2] at h
        intro vs G2 H2 O2 E2 hl s2
        have E3 : Er (F.asd B) G2 H2 (setR (r.map (·.i)) vs σ) ρ2 O2 := E2.aside (fun a u z => E2.held a u (hB a u z)) nB
        have rv : Rv (F.asd B) G2 H2 ρ2 O2 q.fr v d := by
          rcases pd with ⟨p, o, hf, rfl, h1, h2, h3, h4⟩ | ⟨hm, hr⟩
          · obtain ⟨g1, g2, g3⟩ := E2.held p o h1
            exact .inl ⟨p, o, hf, rfl, g1, g2, h3, h2, g3, h4.up s2⟩
          · exact .inr ⟨hm, hr.up s2⟩
        obtain ⟨O3, E4⟩ := E3.put q.i rv
        exact h (v :: vs) G2 H2 O3 E4 (by rw [List.length_cons, List.length_cons, hl]) (s1.g.trans s2)
def parS (items : List PIt) : S := fun ρ => match parL items ρ with
  | .ok _ ρ' => .ok .nx ρ'
  | .exc x ρ' => .exc x ρ'
  | .bad => .bad
theorem s_par2 {i j : Nat} {x y : Str} {m n : M D} {fr fr' : Bool} {px py pt pt2 : Pos} {kt k2 : Nat} (o : Xo F T N sc k X) (hh : T.hot = false) (hi : X.N[i]? = some x) (hj : X.N[j]? = some y) (hij : i ≠ j)
    (hx : X.env.scope.names.lookup x = some .local) (hy : X.env.scope.names.lookup y = some .local) (ha : ∀ B, PE X a (rdE (F.asd B) m fr)) (hb : ∀ B, PE X b (rdE (F.asd B) n fr')) (pa : plainE a = true) (pb : plainE b = true)
    (hw : swappedStores [.Tuple [.Name x px, .Name y py] kt pt] (.Tuple [a, b] k2 pt2) X.env = pure (some [x, y])) :
    PS X (.Assign [.Tuple [.Name x px, .Name y py] kt pt] (.Tuple [a, b] k2 pt2) pos) (rdS F (parS [⟨i, m, fr⟩, ⟨j, n, fr'⟩])) := by
  have nd : X.N.Nodup := by rw [o.hN]; exact o.nd
  have p1 : PE X a (tAny F ⟨i, m, fr⟩) := ⟨fun pins s σ H Q I ⟨B, q⟩ => (ha B).run pins s σ H Q I q⟩
  have p2 : PE X b (tAny F ⟨j, n, fr'⟩) := ⟨fun pins s σ H Q I ⟨B, q⟩ => (hb B).run pins s σ H Q I q⟩
  have hpa : PA X [a, b] (tList [tAny F ⟨i, m, fr⟩, tAny F ⟨j, n, fr'⟩]) := pa_cons p1 (pa_cons p2 pa_nil (star_of pb _ _)) (star_of pa _ _)
  refine psI (ps_par (o.calm hh) nd hi hj hij hx hy hpa hw) fun D σ H ⟨G, ρ, O, E, q⟩ => ?_
  refine par_rd [⟨i, m, fr⟩, ⟨j, n, fr'⟩] F.B (Q := fun vs H1 => ∃ v w, vs = [v, w] ∧ D.nx ((σ.set i (some v)).set j (some w)) H1) E ?_
  unfold parS at q
  cases e1 : parL [⟨i, m, fr⟩, ⟨j, n, fr'⟩] ρ with
  | bad => rw [e1] at q; exact q
  | exc x ρ1 => rw [e1] at q; exact q σ
  | ok _ ρ1 =>
    rw [e1] at q
    intro vs G1 H1 O1 E1 hl s1
    match vs, hl, E1 with
    | [v, w], _, E1 =>
      refine ⟨v, w, rfl, ?_⟩
      have E1 : Er F G1 H1 ((σ.set j (some w)).set i (some v)) ρ1 O1 := E1
      rw [List.set_comm _ _ (Ne.symm hij)] at E1
      exact q _ G1 H1 O1 E1 s1
theorem s_par3 {i j l : Nat} {x y z : Str} {c : Expr} {m n n2 : M D} {fr fr' fr2 : Bool} {px py pz pt pt2 : Pos} {kt k2 : Nat} (o : Xo F T N sc k X) (hh : T.hot = false) (hi : X.N[i]? = some x) (hj : X.N[j]? = some y) (hl : X.N[l]? = some z) (hij : i ≠ j) (hil : i ≠ l) (hjl : j ≠ l)
    (hx : X.env.scope.names.lookup x = some .local) (hy : X.env.scope.names.lookup y = some .local) (hz : X.env.scope.names.lookup z = some .local) (ha : ∀ B, PE X a (rdE (F.asd B) m fr)) (hb : ∀ B, PE X b (rdE (F.asd B) n fr')) (hc : ∀ B, PE X c (rdE (F.asd B) n2 fr2))
    (pa : plainE a = true) (pb : plainE b = true) (pc : plainE c = true)
    (hw : swappedStores [.Tuple [.Name x px, .Name y py, .Name z pz] kt pt] (.Tuple [a, b, c] k2 pt2) X.env = pure (some [x, y, z])) :
    PS X (.Assign [.Tuple [.Name x px, .Name y py, .Name z pz] kt pt] (.Tuple [a, b, c] k2 pt2) pos) (rdS F (parS [⟨i, m, fr⟩, ⟨j, n, fr'⟩, ⟨l, n2, fr2⟩])) := by
  have nd : X.N.Nodup := by rw [o.hN]; exact o.nd
  have p1 : PE X a (tAny F ⟨i, m, fr⟩) := ⟨fun pins s σ H Q I ⟨B, q⟩ => (ha B).run pins s σ H Q I q⟩
  have p2 : PE X b (tAny F ⟨j, n, fr'⟩) := ⟨fun pins s σ H Q I ⟨B, q⟩ => (hb B).run pins s σ H Q I q⟩
  have p3 : PE X c (tAny F ⟨l, n2, fr2⟩) := ⟨fun pins s σ H Q I ⟨B, q⟩ => (hc B).run pins s σ H Q I q⟩
  have hpa : PA X [a, b, c] (tList [tAny F ⟨i, m, fr⟩, tAny F ⟨j, n, fr'⟩, tAny F ⟨l, n2, fr2⟩]) := pa_cons p1 (pa_cons p2 (pa_cons p3 pa_nil (star_of pc _ _)) (star_of pb _ _)) (star_of pa _ _)
  refine psI (L2.ps_par3 (o.calm hh) nd hi hj hl hij hil hjl hx hy hz hpa hw) fun D σ H ⟨G, ρ, O, E, q⟩ => ?_
  refine par_rd [⟨i, m, fr⟩, ⟨j, n, fr'⟩, ⟨l, n2, fr2⟩] F.B (Q := fun vs H1 => ∃ u v w, vs = [u, v, w] ∧ D.nx (((σ.set i (some u)).set j (some v)).set l (some w)) H1) E ?_
  unfold parS at q
  cases e1 : parL [⟨i, m, fr⟩, ⟨j, n, fr'⟩, ⟨l, n2, fr2⟩] ρ with
  | bad => rw [e1] at q; exact q
  | exc x ρ1 => rw [e1] at q; exact q σ
  | ok _ ρ1 =>
    rw [e1] at q
    intro vs G1 H1 O1 E1 hl s1
    match vs, hl, E1 with
    | [u, v, w], _, E1 =>
      refine ⟨u, v, w, rfl, ?_⟩
      have E1 : Er F G1 H1 (((σ.set l (some w)).set j (some v)).set i (some u)) ρ1 O1 := E1
      rw [List.set_comm _ _ (Ne.symm hij), List.set_comm _ _ (Ne.symm hil), List.set_comm _ _ (Ne.symm hjl)] at E1
      exact q _ G1 H1 O1 E1 s1
end
end Dv
namespace Dv
open PySem L2 PyProof.Rows
section
variable {F : Fx} {T : Tab} {N : List Str} {sc : Scope} {k : Nat} {X : Cx} {e a b tg : Expr} {pos : Pos}
/-! ### what is no exchange of values -/
def isComp : Expr → Bool
  | .ListComp _ _ _ _ => true
  | .SetComp _ _ _ _ => true
  | .DictComp _ _ _ _ _ => true
  | _ => false
theorem swap_nc {t : Option Expr} {l : Nat} {env : PySem.Env} (h : isComp e = false) : swapsWith e t l env = pure false := by
  cases e <;> first | rfl | cases h
theorem swap_sub {o ix : Expr} {p : Pos} {l : Nat} {env : PySem.Env} : swapsWithSole [.Subscript o ix p] e l env = pure false := by
  cases e <;> rfl
theorem swap_tup {es : List Expr} {x1 : Nat} {p : Pos} {l : Nat} {env : PySem.Env} : swapsWithSole [.Tuple es x1 p] e l env = pure false := by
  cases e <;> rfl
theorem stores_sub {o ix : Expr} {p : Pos} {env : PySem.Env} : swappedStores [.Subscript o ix p] e env = pure none := by
  cases e <;> rfl
def isTup : Expr → Bool
  | .Tuple _ _ _ => true
  | _ => false
theorem stores_nt {t : Expr} {env : PySem.Env} (h : isTup e = false) : swappedStores [t] e env = pure none := by
  cases t <;> cases e <;> first | rfl | cases h
/-! ### x[i] = e -/
def setS (j : Nat) (oi : Opd) (m : M D) : S := fun ρ => (m ρ).bind fun d ρ1 => match slD ρ1[j]? with
  | none => .bad
  | some _ => (evO [oi] ρ1).bind fun es ρ2 => (match es, ρ2[j]? with
    | [.int n], some (.own (.lst ds)) => (match ixI ds.length n with
      | some q => .ok .nx (ρ2.set j (.own (.lst (ds.set q d))))
      | none => .bad)
    | _, _ => .bad)
theorem ops_stmt {es : List Expr} {os : List Opd} {ts : List TE} {f : List D → S} {D0 : Ends} {σ : L2.St} {H : Hp} {Q : List V → Hp → Prop} {G : Hp} {ρ : En} {O : Nat → List Addr} (h : Ops F X es os ts) (E : Er F G H σ ρ O) (q : Post F D0 G ((evO os ρ).bind f))
    (w : ∀ vs ds ρ1 G1 H1 O1, Er F G1 H1 σ ρ1 O1 → Same G G1 → Avs F.K G1 σ ρ1 os vs ds → Post F D0 G1 (f ds ρ1) → Q vs H1) : tList ts σ H Q := by
  refine h.run σ H _ ⟨G, ρ, O, E, ?_⟩
  cases e1 : evO os ρ with
  | bad => rw [e1] at q; exact q
  | exc x ρ1 => rw [e1] at q; exact q σ
  | ok ds ρ1 =>
    rw [e1] at q
    exact fun vs G1 H1 O1 E1 s1 a1 => w vs ds ρ1 G1 H1 O1 E1 s1.g a1 (Post.up q s1.g)
theorem s_set {o ix : Expr} {j : Nat} {oi : Opd} {ti : TE} {m : M D} {fr : Bool} {p2 : Pos} (ho : PE X o (tVar j)) (hix : Op1 F X ix oi ti) (h : PE X e (rdE F m fr)) (px : plainE ix = true) :
    PS X (.Assign [.Subscript o ix p2] e pos) (rdS F (setS j oi m)) := by
  refine psI (ps_asg h (pg_sub ho hix.pe set_list (fun v => by cases ix <;> first | rfl | cases px)) swap_sub stores_sub rfl) fun D σ H ⟨G, ρ, O, E, q⟩ => ?_
  show rdE F m fr σ H fun x H1 => gSub (tVar j) ti rSetL x σ H1 D.nx
  refine rdE_stmt E q fun v d ρ1 G1 H1 O1 E1 s1 r1 q1 => ?_
  obtain ⟨G2, s2, E2, r2⟩ := E1.hold r1
  cases e0 : slD ρ1[j]? with
  | none => rw [e0] at q1; exact q1.elim
  | some d0 =>
    rw [e0] at q1
    simp only at q1
    obtain ⟨u, hu, _⟩ := E2.slot e0
    refine ⟨u, hu, ?_⟩
    show tList [ti] σ H1 (fun vs H2 => match vs with | [i] => rSetL u i v H2 fun H3 => D.nx σ H3 | _ => False)
    refine ops_stmt (f := fun es ρ2 => (match es, ρ2[j]? with
    | [.int n], some (.own (.lst ds)) => (match ixI ds.length n with
      | some q => .ok .nx (ρ2.set j (.own (.lst (ds.set q d))))
      | none => .bad)
    | _, _ => .bad)) (.cons hix .nil) E2 (Post.up q1 s2) fun vs ds ρ2 G3 H3 O3 E3 s3 a3 q3 => ?_
    have va := a3.vw E3
    cases va with
    | nil => exact q3.elim
    | cons v1 t =>
      cases t with
      | cons _ _ => simp only at q3; exact q3.elim
      | nil =>
        rename_i i di
        cases di <;> try exact q3.elim
        rename_i n
        cases e5 : ρ2[j]? with
        | none => rw [e5] at q3; exact q3.elim
        | some s =>
          rw [e5] at q3
          cases s <;> try exact q3.elim
          rename_i dd
          cases dd <;> try exact q3.elim
          rename_i ds
          simp only at q3
          cases e6 : ixI ds.length n with
          | none => rw [e6] at q3; exact q3.elim
          | some q =>
            rw [e6] at q3
            obtain ⟨p, o2, g1, g2, g3, g4, g5, g6⟩ := E3.own j _ e5
            rw [hu] at g1
            cases g1
            cases g6
            rename_i vs hr
            refine ⟨p, vs, n, q, rfl, v1.int', g3, by rw [ixN_eq, hr.length]; exact e6, ?_⟩
            exact q3 σ G3 _ O3 (E3.change e5 g2 hu g4 g5 (.lst (RpAll.set (r2.up s3) q hr))) srfl
/-! ### x op= e -/
def augD : Operator → Option (D → D → Option D)
  | .Add => some fun a b => match a, b with
    | .int i, .int j => some (.int (i + j))
    | .str x, .str y => if x.length + y.length ≤ sizeLine then some (.str (x ++ y)) else none
    | _, _ => none
  | .Sub => some subD
  | .Mult => some fun a b => match a, b with
    | .int i, .int j => if CMul i j then some (.int (i * j)) else none
    | _, _ => none
  | .BitXor => some xorD
  | _ => none
def augS (i : Nat) (f : D → D → Option D) (o : Opd) : S := fun ρ => match ρ[i]? with
  | some (.val d0) => (evO [o] ρ).bind fun ds ρ1 => (match ds with
    | [d] => (match f d0 d with
      | some r => if isMut r then .bad else .ok .nx (ρ1.set i (.val r))
      | none => .bad)
    | _ => .bad)
  | _ => .bad
theorem aug_ok {op : Operator} {f : D → D → Option D} (h : augD op = some f) : ∃ r, OpR X (inplaceOp op) r ∧ Op2 F f r := by
  cases op <;> simp only [augD, Option.some.injEq, reduceCtorEq] at h <;> subst h
  · refine ⟨_, iop_add.or iop_add_str, ?_⟩
    intro G H σ ρ O x y a b d Q E va vb e w
    dsimp only at e
    split at e
    · cases e
      exact .inl ⟨_, _, va.int', vb.int', w _ _ _ _ E strf rv_int⟩
    · split at e
      · rename_i hz
        cases e
        exact .inr ⟨_, _, va.str', vb.str', hz, w _ _ _ _ E strf rv_str⟩
      · cases e
    · cases e
  · refine ⟨_, iop_sub, ?_⟩
    intro G H σ ρ O x y a b d Q E va vb e w
    unfold subD at e
    split at e
    · cases e
      exact ⟨_, _, va.int', vb.int', w _ _ _ _ E strf rv_int⟩
    · cases e
  · refine ⟨_, iop_mul, ?_⟩
    intro G H σ ρ O x y a b d Q E va vb e w
    dsimp only at e
    split at e
    · split at e
      · rename_i hc
        cases e
        exact ⟨_, _, va.int', vb.int', hc, w _ _ _ _ E strf rv_int⟩
      · cases e
    · cases e
  · refine ⟨_, iop_xor, ?_⟩
    intro G H σ ρ O x y a b d Q E va vb e w
    unfold xorD at e
    split at e
    · cases e
      exact ⟨_, _, va.int', vb.int', w _ _ _ _ E strf rv_int⟩
    · cases e
theorem s_aug {i : Nat} {x : Str} {o : Opd} {t : TE} {op : Operator} {f : D → D → Option D} {pos' : Pos} (hN : X.N.Nodup) (hi : X.N[i]? = some x) (hx : Loc X.env.scope x) (hf : X.fn x = true ∨ X.env.scope.names.lookup x = some .local) (ho : augD op = some f) (h : Op1 F X e o t) :
    PS X (.AugAssign (.Name x pos') op e pos) (rdS F (augS i f o)) := by
  obtain ⟨r, h1, h2⟩ := aug_ok (F := F) (X := X) ho
  refine psI (ps_aug hN hi hx h.pe (ti := r) h1 hf) fun D σ H ⟨G, ρ, O, E, q⟩ => ?_
  unfold augS at q
  split at q
  · rename_i d0 e0
    obtain ⟨v, hv, r0⟩ := E.val i d0 e0
    refine ⟨v, hv, ?_⟩
    show tList [t] σ H (fun vs H1 => match vs with | [y] => r v y H1 fun z H2 => D.nx (σ.set i (some z)) H2 | _ => False)
    refine ops_stmt (f := fun ds ρ1 => (match ds with
    | [d] => (match f d0 d with
      | some r => if isMut r then .bad else .ok .nx (ρ1.set i (.val r))
      | none => .bad)
    | _ => .bad)) (.cons h .nil) E q fun vs ds ρ1 G1 H1 O1 E1 s1 a1 q1 => ?_
    have va := a1.vw E1
    cases va with
    | nil => exact q1.elim
    | cons v1 t =>
      cases t with
      | cons _ _ => simp only at q1; exact q1.elim
      | nil =>
        rename_i y d
        simp only at q1
        cases e1 : f d0 d with
        | none => rw [e1] at q1; exact q1.elim
        | some rr =>
          rw [e1] at q1
          simp only at q1
          cases em : isMut rr with
          | true => rw [em] at q1; exact q1.elim
          | false =>
            rw [em] at q1
            refine h2 G1 H1 σ ρ1 O1 v y d0 d rr _ E1 (.inl (r0.up s1)) v1 e1 fun z G2 H2 O2 E2 s2 r2 => ?_
            obtain ⟨O3, E3⟩ := E2.put i r2
            have : slotOf true rr = .val rr := by unfold slotOf; rw [em]; simp
            rw [this] at E3
            exact q1 _ G2 H2 O3 E3 s2.g
  · exact q.elim
end
end Dv
namespace Dv
open PySem L2 PyProof.Rows
section
variable {F : Fx} {T : Tab} {N : List Str} {sc : Scope} {k : Nat} {X : Cx} {e a b tg : Expr} {pos : Pos}
/-! ### x.index(e) -/
def firstB (d : PyData) : List PyData → Nat → Option Nat
  | [], _ => none
  | z :: zs, i => if PyData.eqv z d then some i else firstB d zs (i + 1)
theorem firstB_ok {d : PyData} : ∀ {zs : List PyData} {i j : Nat}, firstB d zs i = some j → i ≤ j ∧ ∃ z, zs[j - i]? = some z ∧ PyData.eqv z d = true ∧ ∀ (m : Nat) (z' : PyData), m < j - i → zs[m]? = some z' → PyData.eqv z' d = false
  | [], i, j, h => by cases h
  | z :: zs, i, j, h => by
    simp only [firstB] at h
    split at h
    · rename_i hz
      cases h
      exact ⟨Nat.le_refl _, z, by rw [Nat.sub_self]; rfl, hz, fun m z' hm => by omega⟩
    · rename_i hz
      obtain ⟨h1, z2, h2, h3, h4⟩ := firstB_ok h
      refine ⟨by omega, z2, by rw [show j - i = (j - (i + 1)) + 1 by omega]; exact h2, h3, fun m z' hm hz' => ?_⟩
      cases m with
      | zero =>
        cases hz'
        simpa using hz
      | succ m => exact h4 m z' (by omega) hz'
def indexB (ds : List D) (d : D) : Option Nat := if shaped? (.lst ds) && shaped? d then firstB (toPy d) (toPys ds) 0 else none
def idxM (i : Nat) (m : M D) : M D := fun ρ => match slD ρ[i]? with
  | some (.lst _) => (m ρ).bind fun d ρ' => (match slD ρ'[i]? with
    | some (.lst ds) => (match indexB ds d with
      | some j => .ok (.int (j : Nat)) ρ'
      | none => .bad)
    | _ => .bad)
  | _ => .bad
theorem e_index {o : Expr} {i : Nat} {m : M D} {fr : Bool} {apos cpos : Pos} (hK : X.K = F.K) (hu : X.A.units + 65 < cLine) (ho : PE X o (tVar i)) (po : plainBase o = true) (h : PE X e (rdE F m fr)) (pe : plainE e = true) (hline : (apos.endLine == cpos.line) = true) :
    PE X (.Call (.Attribute o "index" apos) [e] [] cpos) (rdE F (idxM i m) true) := by
  have pa : PA X [e] (tCons (rdE F m fr) tNil) := pa_cons h pa_nil (star_of pe _ _)
  have hstar : starEach [e] X.env = (false, eval e X.env) :: starEach [] X.env := star_of pe _ _
  refine peI (pe_bm PySem.F.plainAttrs_list PySem.F.slot_list_index PySem.F.type_list_index (mt_indexD hu) ho pa (base_of po) ?_ hline hstar rfl) fun σ H Q ⟨G, ρ, O, E, q⟩ => ?_
  · rw [hstar]; rfl
  · unfold idxM at q
    cases e0 : slD ρ[i]? with
    | none => rw [e0] at q; exact q.elim
    | some d0 =>
      rw [e0] at q
      cases d0 <;> try exact q.elim
      rename_i ds0
      obtain ⟨u, hu1, va⟩ := E.slot e0
      obtain ⟨p, vs0, rfl, h1, h2⟩ := va.lst' E.gh
      refine ⟨.ref p, hu1, .inl ⟨rfl, _, .inl (.inl h1)⟩, ?_⟩
      show rdE F m fr σ H fun y H2 => rIndexD X.K (.ref p) [y] H2 Q
      refine ⟨G, ρ, O, E, ?_⟩
      simp only at q
      cases e1 : m ρ with
      | bad => rw [e1] at q; exact q
      | exc x ρ1 => rw [e1] at q; exact q
      | ok d ρ1 =>
        rw [e1] at q
        intro v G1 H1 O1 E1 s1 r1
        simp only [R.bind_ok] at q
        cases e2 : slD ρ1[i]? with
        | none => rw [e2] at q; exact q.elim
        | some d1 =>
          rw [e2] at q
          cases d1 <;> try exact q.elim
          rename_i ds
          simp only at q
          cases e3 : indexB ds d with
          | none => rw [e3] at q; exact q.elim
          | some j =>
            rw [e3] at q
            obtain ⟨u', hu2, va'⟩ := E1.slot e2
            rw [hu1] at hu2
            cases hu2
            obtain ⟨p', vs, ep, g1, g2⟩ := va'.lst' E1.gh
            cases ep
            unfold indexB at e3
            split at e3
            · rename_i hs
              rw [Bool.and_eq_true] at hs
              obtain ⟨l1, l2⟩ := shaped_dp (K := F.K) (H := H1) (v := .ref p) hs.1 (.lst g1 (g2.up E1.gh))
              have rv : Rp F.K H1 v d := by
                rcases r1 with ⟨p2, o2, hf, rfl, k1, k2, k3, _, _, k4⟩ | ⟨_, r1⟩
                · exact (k4.up E1.gh).rp k1
                · exact r1.up E1.gh
              obtain ⟨d1, d2⟩ := shaped_dp hs.2 rv
              obtain ⟨_, z, z1, z2, z3⟩ := firstB_ok e3
              refine ⟨p, v, toPy d, toPys ds, j, z, rfl, rfl, by rw [hK]; exact l1, by rw [hK]; exact d1, l2, d2, z1, z2, z3, ?_⟩
              exact q _ G1 H1 O1 E1 s1 rv_int
            · cases e3
end
end Dv
namespace Dv
open PySem L2 PyProof.Rows
section
variable {F : Fx} {T : Tab} {N : List Str} {sc : Scope} {k : Nat} {X : Cx} {e a b tg : Expr} {pos : Pos}
/-! ### x[i] op= e -/
theorem get_list : PGet X (rIxL X.K) := by
  intro pins s σ H x y v u Q I rx ry h
  obtain ⟨p, xs, i, z, rfl, rfl, hq, he, q⟩ := h
  cases rx
  obtain ⟨t, rfl⟩ := ry
  obtain ⟨its, r, pl, hz⟩ := I.list hq
  obtain ⟨j, h1, h2, h3, h4, h5⟩ := atI_get he
  obtain ⟨w, ew, rw'⟩ := r.get h2
  have hl := r.length
  have hn := line63
  have fin : EP X pins σ Q w s := ⟨z, H, I, rw', q⟩
  by_cases h0 : 0 ≤ i
  · have hj : i.toNat = j := by
      rw [seqIndex_of h0 h5] at h1
      exact Option.some.inj h1
    exact wpAny_getItem_list pl.isList h0 (by omega) (by rw [hj]; simpa using ew) fin
  · have hj : (i + (its.toArray.size : Int)).toNat = j := by
      rw [seqIndex_neg (by omega) h4] at h1
      rw [List.size_toArray, ← hl]
      exact Option.some.inj h1
    exact wpAny_getItem_list_neg pl.isList (by omega) (by rw [List.size_toArray] <;> omega) (by omega) (by rw [hj]; simpa using ew) fin
def augSubS (j : Nat) (f : D → D → Option D) (mi me : M D) : S := fun ρ => match slD ρ[j]? with
  | none => .bad
  | some _ => (mi ρ).bind fun di ρ1 => (match di, ρ1[j]? with
    | .int n, some (.own (.lst ds)) => (match (ixI ds.length n).bind fun q => ds[q]? with
      | some x => if isMut x then .bad else (me ρ1).bind fun dy ρ2 => (match f x dy, ρ2[j]? with
        | some z, some (.own (.lst ds2)) => (match ixI ds2.length n with
          | some q => if isMut z then .bad else .ok .nx (ρ2.set j (.own (.lst (ds2.set q z))))
          | none => .bad)
        | _, _ => .bad)
      | none => .bad)
    | _, _ => .bad)
theorem s_augSub {o ix : Expr} {j : Nat} {op : Operator} {f : D → D → Option D} {mi me : M D} {fi fe : Bool} {p2 : Pos} (hK : X.K = F.K) (ho : PE X o (tVar j)) (hi : PE X ix (rdE F mi fi)) (hop : augD op = some f) (he : PE X e (rdE F me fe)) (px : plainE ix = true) :
    PS X (.AugAssign (.Subscript o ix p2) op e pos) (rdS F (augSubS j f mi me)) := by
  obtain ⟨r, h1, h2⟩ := aug_ok (F := F) (X := X) hop
  refine psI (ps_augS (tget := rIxL X.K) (tip := r) (tset := rSetL) ho hi get_list he h1 set_list (by intros; cases ix <;> first | rfl | cases px)) fun D σ H ⟨G, ρ, O, E, q⟩ => ?_
  unfold augSubS at q
  cases e0 : slD ρ[j]? with
  | none => rw [e0] at q; exact q.elim
  | some d0 =>
    rw [e0] at q
    simp only at q
    obtain ⟨u, hu, _⟩ := E.slot e0
    refine ⟨u, hu, ?_⟩
    refine rdE_stmt E q fun v di ρ1 G1 H1 O1 E1 s1 r1 q1 => ?_
    cases di <;> try exact q1.elim
    rename_i n
    have ev : v = .int n := by
      rcases r1 with ⟨p, o, _, _, _, _, _, _, _, h5⟩ | ⟨_, r1⟩
      · cases h5
      · cases r1; rfl
    subst ev
    cases e5 : ρ1[j]? with
    | none => rw [e5] at q1; exact q1.elim
    | some s =>
      rw [e5] at q1
      cases s <;> try exact q1.elim
      rename_i dd
      cases dd <;> try exact q1.elim
      rename_i ds
      simp only at q1
      cases e6 : (ixI ds.length n).bind fun q => ds[q]? with
      | none => rw [e6] at q1; exact q1.elim
      | some x =>
        rw [e6] at q1
        simp only at q1
        obtain ⟨p, o2, g1, g2, g3, g4, g5, g6⟩ := E1.own j _ e5
        rw [hu] at g1
        cases g1
        cases g6
        rename_i vs hr
        obtain ⟨vx, hvx, rx⟩ := atI_of hr e6
        refine ⟨p, vs, n, vx, rfl, rfl, .inl (.inl g3), hvx, ?_⟩
        split at q1
        · exact q1.elim
        rename_i hmx
        refine rdE_stmt (f := fun dy ρ2 => (match f x dy, ρ2[j]? with
        | some z, some (.own (.lst ds2)) => (match ixI ds2.length n with
          | some q => if isMut z then .bad else .ok .nx (ρ2.set j (.own (.lst (ds2.set q z))))
          | none => .bad)
        | _, _ => .bad)) E1 q1 fun vy dy ρ2 G2 H2 O2 E2 s2 r2 q2 => ?_
        obtain ⟨G3, s3, E3, r3⟩ := E2.hold r2
        replace q2 := Post.up q2 s3
        cases e7 : f x dy with
        | none => rw [e7] at q2; exact q2.elim
        | some z =>
          rw [e7] at q2
          cases e8 : ρ2[j]? with
          | none => rw [e8] at q2; exact q2.elim
          | some s' =>
            rw [e8] at q2
            cases s' <;> try exact q2.elim
            rename_i dd2
            cases dd2 <;> try exact q2.elim
            rename_i ds2
            simp only at q2
            cases e9 : ixI ds2.length n with
            | none => rw [e9] at q2; exact q2.elim
            | some qi =>
              rw [e9] at q2
              simp only at q2
              split at q2
              · exact q2.elim
              rename_i hmz
              refine h2 G3 H2 σ ρ2 O2 vx vy x dy z _ E3 (.inl ((rx.up s2).up s3)) (.inl r3) e7 fun vz G4 H4 O4 E4 s4 r4 => ?_
              have rz : Rp F.K G4 vz z := by
                rcases r4 with ⟨p', o', _, _, _, _, _, _, _, h5⟩ | ⟨_, r4⟩
                · have := h5.mut
                  rw [this] at hmz
                  exact absurd rfl hmz
                · exact r4
              obtain ⟨p', o3, k1, k2, k3, k4, k5, k6⟩ := E4.own j _ e8
              rw [hu] at k1
              cases k1
              cases k6
              rename_i vs2 hr2
              refine ⟨p, vs2, n, qi, rfl, rfl, k3, by rw [ixN_eq, hr2.length]; exact e9, ?_⟩
              exact q2 σ G4 _ O4 (E4.change e8 k2 hu k4 k5 (.lst (RpAll.set rz qi hr2))) s4.g
/-! ### return a if c else b, a or b an own list -/
def RetOk (F : Fx) (X : Cx) (e : Expr) (s : S) : Prop := ∃ te, PE X e te ∧ ∀ (D : Ends) σ H, rdS F s D σ H → te σ H D.rt
theorem ret_plain {m : M D} {fr : Bool} (h : PE X e (rdE F m fr)) : RetOk F X e (retS m fr) := by
  refine ⟨_, h, fun D σ H ⟨G, ρ, O, E, q⟩ => ?_⟩
  refine rdE_stmt (f := fun d ρ' => if fr = false ∧ isMut d = true then .bad else .ok (.ret d) ρ') E q fun v d ρ1 G1 H1 O1 E1 s1 r1 q1 => ?_
  split at q1
  · exact q1.elim
  · rename_i hn
    refine q1 v σ G1 H1 O1 E1 srfl ?_
    cases fr with
    | true => exact r1
    | false =>
      rcases r1 with ⟨p, o, z, _⟩ | ⟨_, r1⟩
      · cases z
      · refine .inr ⟨fun _ => ?_, r1⟩
        cases z : isMut d with
        | false => rfl
        | true => exact absurd ⟨rfl, z⟩ hn
theorem ret_var {i : Nat} (h : PE X e (tVar i)) : RetOk F X e (retV i) := by
  refine ⟨_, h, fun D σ H ⟨G, ρ, O, E, q⟩ => ?_⟩
  unfold retV at q
  cases e1 : ρ[i]? with
  | none => rw [e1] at q; exact q.elim
  | some s =>
    rw [e1] at q
    cases s with
    | no => exact q.elim
    | val d =>
      obtain ⟨v, hv, r⟩ := E.val i d e1
      simp only at q
      cases z : isMut d with
      | true => rw [z] at q; exact q.elim
      | false =>
        rw [z] at q
        exact ⟨v, hv, q v σ G H O E srfl (.inr ⟨fun _ => z, r⟩)⟩
    | own d =>
      obtain ⟨p, o, h1, h2, h3, h4, h5, h6⟩ := E.own i d e1
      refine ⟨_, h1, q _ σ G H O (E.drop i) srfl (.inl ⟨p, o, rfl, rfl, h3, h4, h5, ?_, ?_, h6⟩)⟩
      · cases z : F.B p with
        | none => rfl
        | some u => exact absurd (show p ∈ O i by rw [h2]; simp) ((E.held p u z).2.2 i d e1)
      · intro j d' z hm
        by_cases hj : j = i
        · subst hj
          by_cases hi : j < ρ.length
          · rw [List.getElem?_set_self hi] at z; cases z
          · rw [List.getElem?_eq_none (by rw [List.length_set]; omega)] at z; cases z
        · rw [List.getElem?_set_ne (Ne.symm hj)] at z
          exact E.dis i j d d' (Ne.symm hj) e1 z p (by rw [h2]; simp) hm
theorem ret_ite {c : Expr} {m : M Bool} {s t : S} (hc : PT X c (rdT F m)) (ha : RetOk F X a s) (hb : RetOk F X b t) : RetOk F X (.IfExp c a b pos) (ifS m s t) := by
  obtain ⟨ta, pa, ra⟩ := ha
  obtain ⟨tb, pb, rb⟩ := hb
  refine ⟨_, pe_ifExp hc pa pb, fun D σ H ⟨G, ρ, O, E, q⟩ => ?_⟩
  refine rdT_stmt (f := fun b ρ' => if b = true then s ρ' else t ρ') E q fun b ρ1 G1 H1 O1 E1 s1 q1 => ?_
  cases b with
  | true => exact ra D σ H1 ⟨G1, ρ1, O1, E1, q1⟩
  | false => exact rb D σ H1 ⟨G1, ρ1, O1, E1, q1⟩
theorem s_retG {s : S} (h : RetOk F X e s) : PS X (.Return (some e) pos) (rdS F s) := by
  obtain ⟨te, h1, h2⟩ := h
  exact psI (ps_ret h1) fun D σ H q => h2 D σ H q
def isLst : Expr → Bool
  | .ListComp _ _ _ _ => true
  | .List _ _ => true
  | _ => false
def isNm : Expr → Bool
  | .Name _ _ => true
  | _ => false
/-! ### x.extend(e) -/
def extS (i : Nat) (m : M D) : S := fun ρ => match ρ[i]? with
  | some (.own (.lst _)) => (m ρ).bind fun d ρ' => (match ρ'[i]?, d with
    | some (.own (.lst ds)), .lst es => if ds.length + es.length ≤ 16000000 then .ok .nx (ρ'.set i (.own (.lst (ds ++ es)))) else .bad
    | _, _ => .bad)
  | _ => .bad
theorem s_ext {o : Expr} {i : Nat} {m : M D} {fr : Bool} {apos cpos spos : Pos} (hK : X.K = F.K) (ho : PE X o (tVar i)) (po : plainBase o = true) (h : PE X e (rdE F m fr)) (pe : plainE e = true) (hline : (apos.endLine == cpos.line) = true) :
    PS X (.Expr (.Call (.Attribute o "extend" apos) [e] [] cpos) spos) (rdS F (extS i m)) := by
  have pa : PA X [e] (tCons (rdE F m fr) tNil) := pa_cons h pa_nil (star_of pe _ _)
  have hstar : starEach [e] X.env = (false, eval e X.env) :: starEach [] X.env := star_of pe _ _
  refine psI (ps_expr (pe_bm PySem.F.plainAttrs_list PySem.F.slot_list_extend PySem.F.type_list_extend mt_extend ho pa (base_of po) ?_ hline hstar rfl) rfl) fun D σ H ⟨G, ρ, O, E, q⟩ => ?_
  · rw [hstar]; rfl
  · unfold extS at q
    split at q
    rotate_left
    · exact q.elim
    rename_i ds0 hi
    obtain ⟨p, o1, h1, h2, h3, h4, h5, h6⟩ := E.own i _ hi
    cases h6
    rename_i vs0 hr0
    refine ⟨.ref p, h1, .inl ⟨rfl, _, .inl (.inl h3)⟩, ?_⟩
    show rdE F m fr σ H fun y H2 => rExtend (.ref p) [y] H2 fun _ H1 => D.nx σ H1
    refine rdE_stmt E q fun v d ρ1 G1 H1 O1 E1 s1 r1 q1 => ?_
    obtain ⟨G2, s2, E2, r2⟩ := E1.hold r1
    split at q1
    rotate_left
    · exact q1.elim
    rename_i ds es hi1
    split at q1
    rotate_left
    · exact q1.elim
    rename_i hz
    obtain ⟨p', o2, g1, g2, g3, g4, g5, g6⟩ := E2.own i _ hi1
    rw [h1] at g1
    cases g1
    cases g6
    rename_i vs hr
    cases r2
    rename_i b zs hb hzs
    refine ⟨p, b, vs, zs, rfl, rfl, g3, E2.gh _ _ hb, by rw [hr.length, hzs.length, sizeLine_eq]; omega, ?_⟩
    exact q1 σ G2 _ O1 (E2.change hi1 g2 h1 g4 g5 (.lst (hr.append hzs))) s2
end
end Dv
/-! all, any of a generator expression over a tuple or a list -/
namespace Dv
open PySem PySem.Spec L2 PyProof.Rows
section
variable {X : Cx} {pins : List (Addr × Obj)} {σ : L2.St} {H : Hp} {s : Shared}
/-- the element at a value v answers b, wherever the captured names are as in s1 -/
def EltT (X : Cx) (P : Addr) (scope : Scope) (x : Str) (elt : Expr) (s1 : Shared) (v : Value) (b : Bool) : Prop :=
  ∀ (cenv : Env) (A' : Around) (E' : Value → Shared → Prop) (s₂ : Shared) (m₂ : Str → Option Value), cenv.scope = scope → cenv.cells = cloFrom X.env.cells scope.names [] → s₂.heap.Ns cenv.locals m₂ → m₂ x = some v →
    (∀ y c u, X.env.cells.lookup y = some c → s1.heap.IsCell c (some u) → s₂.heap.IsCell c (some u)) → (∀ b o, b ≠ P → s1.heap.get? b = some o → s₂.heap.get? b = some o) → cenv.globals = X.env.globals → cenv.builtins = builtinsNs → wpAny (model X.prog X.w) A' (eval elt cenv) (fun y s₃ => y = .bool b ∧ Keeps s₂ s₃) E' s₂
def trB (bs : List Bool) (j : Nat) : Bool := (bs[j]?).getD false
theorem all_trB (bs : List Bool) : (List.range bs.length).all (trB bs) = bs.all id := by
  rw [Bool.eq_iff_iff, List.all_eq_true, List.all_eq_true]
  constructor
  · intro h b hb
    obtain ⟨j, hj, e⟩ := List.getElem_of_mem hb
    have q := h j (List.mem_range.mpr hj)
    unfold trB at q
    rw [List.getElem?_eq_getElem hj, e] at q
    exact q
  · intro h j hj
    have hj' := List.mem_range.mp hj
    unfold trB
    rw [List.getElem?_eq_getElem hj']
    exact h _ (List.getElem_mem hj')
theorem any_trB (bs : List Bool) : (List.range bs.length).any (trB bs) = bs.any id := by
  rw [Bool.eq_iff_iff, List.any_eq_true, List.any_eq_true]
  constructor
  · rintro ⟨j, hj, q⟩
    have hj' := List.mem_range.mp hj
    unfold trB at q
    rw [List.getElem?_eq_getElem hj'] at q
    exact ⟨_, List.getElem_mem hj', q⟩
  · rintro ⟨b, hb, q⟩
    obtain ⟨j, hj, e⟩ := List.getElem_of_mem hb
    refine ⟨j, List.mem_range.mpr hj, ?_⟩
    unfold trB
    rw [List.getElem?_eq_getElem hj, e]
    exact q
/-- a walk over the items of a that has just begun -/
structure Begun (X : Cx) (s1 : Shared) (a : Addr) (its : List Value) (o : Obj) (St : Nat → Heap → Prop) : Prop where
  it : ∀ (A : Around) (E : Value → Shared → Prop) (Q : Value → Shared → Prop), Q (.ref s1.heap.objs.size) { s1 with heap := s1.heap.push o } → wpAny (model X.prog X.w) A (pyIter (.ref a)) Q E s1
  W : ∀ A' : Around, A'.handled = none → Walks X.prog X.w A' s1.heap.objs.size [s1.heap.objs.size, a] [s1.heap.objs.size] its.toArray.size (fun i v => its.toArray[i]? = some v) St
  st : St 0 (s1.heap.push o)
  at_ : ∃ u, s1.heap.get? a = some u ∧ u.cls ≠ .none
theorem begun_tuple {s1 : Shared} {a : Addr} {its : List Value} (ht : s1.heap.IsTuple a its.toArray) : ∃ o St, Begun X s1 a its o St := by
  have ht' := ht
  obtain ⟨u, hu, hc, _⟩ := ht'
  have ne : a ≠ s1.heap.objs.size := Nat.ne_of_lt (Heap.lt_size hu)
  exact ⟨_, _, fun A E Q h => wpAny_pyIter_tuple ht h, fun A' hA => Walks.tuple hA _ a ne its.toArray, ⟨⟨_, Heap.get?_push_size _ rfl, rfl, rfl⟩, ht.push _⟩, u, hu, by rw [hc]; intro e; cases e⟩
theorem begun_list {s1 : Shared} {a : Addr} {its : List Value} (ht : s1.heap.IsList a its.toArray) : ∃ o St, Begun X s1 a its o St := by
  have ht' := ht
  obtain ⟨u, hu, hc, _⟩ := ht'
  have ne : a ≠ s1.heap.objs.size := Nat.ne_of_lt (Heap.lt_size hu)
  exact ⟨_, _, fun A E Q h => wpAny_pyIter_list ht h, fun A' hA => Walks.list hA _ a ne its.toArray, ⟨⟨_, Heap.get?_push_size _ rfl, rfl, rfl⟩, ht.push _⟩, u, hu, by rw [hc]; intro e; cases e⟩
/-- the generator g, ready to be walked, in the state s5 -/
def ReadyB (X : Cx) (pins : List (Addr × Obj)) (σ : L2.St) (H1 : Hp) (P : Addr) (bs : List Bool) (g : Addr) (s5 : Shared) : Prop :=
  ∃ (fp wr : List Addr) (G : Array GenState → Array GenState → Prop) (F : Nat → Value → Prop) (St : Nat → Shared → Prop),
    WalksS X.prog X.w X.A.in1 g fp wr G bs.length F St ∧ St 0 s5 ∧ TruthOf X.prog X.w X.A.in1 F (trB bs) ∧ ∀ s', Moved wr G s5 s' → ∃ H2, GxR.Tabbed P H1 H2 ∧ Inv X pins σ H2 s'
theorem gen_any {c P : Addr} {elt iter : Expr} {x : Str} {px gpos : Pos} {scope : Scope} {te : TE} {k : Nat} {Q' : Value → Shared → Prop} {R : List Bool → Hp → Prop}
    (hr : Room k X.A) (TB : GxR.TabB X.base X.mg c P) (hcode : X.env.code = .ref c) (S : GxR.GenS X.env scope x) (hi : PE X iter te)
    (hs : ∀ v, genFold iter X.env v = pure v) (I : Inv X pins σ H s)
    (h : te σ H fun v H1 => ∃ (a : Addr) (xs : List V) (bs : List Bool), v = .ref a ∧ (SqT X.K H1 a xs ∨ SqL X.K H1 a xs) ∧ GxR.TabG H1 P ∧ bs.length = xs.length ∧
      (∀ (pins : List (Addr × Obj)) (its : List Value) (s1 : Shared), Inv X pins σ H1 s1 → Vals xs its → ∀ (i : Nat) (v : Value) (b : Bool), its[i]? = some v → bs[i]? = some b → EltT X P scope x elt s1 v b) ∧ R bs H1)
    (hQ : ∀ bs H1 g s5, R bs H1 → ReadyB X pins σ H1 P bs g s5 → Q' (.ref g) s5) :
    wpAny (model X.prog X.w) X.A (eval (.GeneratorExp elt [⟨.Name x px, iter, [], 0⟩] scope gpos) X.env) Q' X.xe s := by
  refine wpAny_GeneratorExp_walksQ hr.hd S.co (closure_ok S.free) S.cell S.dot S.loc S.kind (by have := hr.dp; omega) ?_ hs
  refine thn (hi.run pins s σ H _ I h) fun xv s1 ⟨v, H1, I1, r1, q1⟩ => ?_
  obtain ⟨a, xs, bs, rfl, hsq, ⟨ps, hP, ht⟩, hlen, hel0, q1⟩ := q1
  cases r1
  obtain ⟨its, rv, o, St, B⟩ : ∃ its, Vals xs its ∧ ∃ o St, Begun X s1 a its o St := by
    rcases hsq with hq | hq
    · obtain ⟨its, rv, p, _⟩ := I1.tuple hq
      exact ⟨its, rv, begun_tuple p⟩
    · obtain ⟨its, rv, p, _⟩ := I1.list hq
      exact ⟨its, rv, begun_list p.isList⟩
  have hel := hel0 pins its s1 I1 rv
  have hbl : bs.length = its.toArray.size := by rw [hlen, rv.length, List.size_toArray]
  refine B.it _ _ _ ?_
  obtain ⟨ua, hua, hca⟩ := B.at_
  have hPs : s1.heap.get? P = some { cls := .none, data := .fields ps } := I1.hok P _ hP
  have haP : a ≠ P := fun z => by
    rw [z, hPs] at hua
    cases hua
    exact hca rfl
  have hPlt : P < s1.heap.objs.size := Heap.lt_size hPs
  have halt : a < s1.heap.objs.size := Heap.lt_size hua
  have hP2 : (s1.heap.push o).get? P = some { cls := .none, data := .fields ps } := Heap.get?_push_of_some _ hPs
  have cd : PySem.W.CodeHd (s1.heap.push o) c P := TB.code.keeps fun b u e => Heap.get?_push_of_some _ (I1.bk b u e)
  have lim2 : (s1.heap.push o).NoLimit := I1.nolimit.push o
  have cont : ∀ (code : Value) (h3 : Heap) (tk : Nat) (ps' : Array Value), Heap.ExtBut P (s1.heap.push o) h3 → (s1.heap.push o).objs.size ≤ h3.objs.size → h3.get? P = some { cls := .none, data := .fields ps' } → (∃ more, ps' = ps ++ more) → TriplesOk ps'.toList →
      wpAny (model X.prog X.w) X.A (builtinsFor X.env.globals X.env.builtins) (fun bi s₄ =>
        ∃ Ia fp wr n₀ Pf St₀ pz F, Value.ref s1.heap.objs.size = .ref Ia ∧ (∀ A' : Around, A'.handled = none → Walks X.prog X.w A' Ia fp wr n₀ Pf St₀) ∧ St₀ 0 s₄.heap ∧ (∀ b ∈ fp, b < s₄.heap.objs.size) ∧ s₄.heap.NoLimit ∧ cStatics ∉ wr ∧
          (∀ href : Heap, (∀ b o, s₄.heap.get? b = some o → href.get? b = some o) →
            QuietGen X.prog X.w (genEnv scope (cloFrom X.env.cells scope.names []) s₄.heap.objs.size code bi X.env) x [] elt (List.range s₄.heap.objs.size) wr Pf pz F href) ∧
          (∀ a h₅ tk gs, gs.bare = true → s₄.heap.objs.size < a → h₅.objs.size = a + 1 → (∀ b o, s₄.heap.get? b = some o → h₅.get? b = some o) →
            WalksS X.prog X.w X.A.in4 a (a :: s₄.heap.objs.size :: List.range s₄.heap.objs.size) (s₄.heap.objs.size :: wr) (GenOnlyQ s₄.gens.size) (passing pz n₀ 0).length
              (fun j y => ∃ i, (passing pz n₀ 0)[j]? = some i ∧ F i y) (GenAt X.prog X.w X.A.in4 a s₄.gens.size s₄.heap.objs.size (List.range s₄.heap.objs.size) wr pz n₀ F) →
            GenAt X.prog X.w X.A.in4 a s₄.gens.size s₄.heap.objs.size (List.range s₄.heap.objs.size) wr pz n₀ F 0 { s₄ with gens := s₄.gens.push gs, toks := tk, heap := h₅ } →
            Q' (.ref a) { s₄ with gens := s₄.gens.push gs, toks := tk, heap := h₅ })) X.xe { s1 with heap := h3, toks := tk } := by
    intro code h3 tk ps' hx hsz hP3 hmore ht3
    obtain ⟨bm, ob, e1, e2, e3, e4, e5, e6, e7, e8⟩ := TB.bm
    have hcP : cStatics ≠ P := fun e => by
      obtain ⟨_, hns, _⟩ := I1.nolimit
      obtain ⟨o', es, ep, ho, hd, _⟩ := hns
      rw [e, hPs] at ho
      cases ho
      cases hd
    have hcl : cStatics < s1.heap.objs.size := let ⟨_, hns, _⟩ := I1.nolimit; hns.lt
    have sz2 : (s1.heap.push o).objs.size = s1.heap.objs.size + 1 := Heap.size_push ..
    have keep3 : ∀ b u, b ≠ P → s1.heap.get? b = some u → h3.get? b = some u := fun b u hb e => hx b u hb (Heap.get?_push_of_some _ e)
    refine wpAny_builtinsFor (m := X.mg) (by rw [I1.ok.glob]; exact ((I1.mod.glob.keeps I1.bk).push o).extBut hx TB.gP) e1 e2 (keep3 _ _ e4 (I1.bk _ _ e5)) e6 e7 e8 ?_
    refine ⟨s1.heap.objs.size, [s1.heap.objs.size, a], [s1.heap.objs.size], its.toArray.size, (fun i v => its.toArray[i]? = some v), St, (fun _ => true), (fun i y => y = .bool (trB bs i)), rfl, B.W, ?_, ?_, lim2.extBut hx hcP, ?_, ?_, ?_⟩
    · refine (B.W X.A hr.hd).frame _ _ _ B.st fun b hb u e => hx b u (fun z => ?_) e
      rcases List.mem_cons.mp hb with z2 | z2
      · exact Nat.ne_of_lt hPlt (z.symm.trans z2)
      · rcases List.mem_cons.mp z2 with z2 | z2
        · exact haP (z2.symm.trans z)
        · cases z2
    · intro b hb
      rcases List.mem_cons.mp hb with z | z
      · rw [z]
        show s1.heap.objs.size < h3.objs.size
        omega
      · rcases List.mem_cons.mp z with z | z
        · rw [z]
          exact Nat.lt_of_lt_of_le halt (show s1.heap.objs.size ≤ h3.objs.size by omega)
        · cases z
    · intro z
      rcases List.mem_cons.mp z with z | z
      · exact Nat.ne_of_lt hcl z
      · cases z
    · intro href hhref
      refine ⟨fun A' E' i v s₂ m₂ hA hPv hn hm hk => ?_, fun A' E' i v s₂ m₂ hA hPv hp hn hm hk => ?_⟩
      · simp only [List.forIn_nil]
        exact wpAny_pure ⟨rfl, GxR.keeps_refl _⟩
      · have hPv' : its[i]? = some v := by rw [← List.getElem?_toArray]; exact hPv
        have hi : i < bs.length := by
          rw [hbl, List.size_toArray]
          exact (List.getElem?_eq_some_iff.mp hPv').1
        have hb : bs[i]? = some (trB bs i) := by
          unfold trB
          rw [List.getElem?_eq_getElem hi]
          rfl
        have kk : ∀ b o, b ≠ P → s1.heap.get? b = some o → s₂.heap.get? b = some o := fun b o hbP ho => by
          have hbl' : b < s1.heap.objs.size := Heap.lt_size ho
          refine hk b (List.mem_range.mpr ?_) ?_ o (hhref _ _ (keep3 b o hbP ho))
          · exact Nat.lt_of_lt_of_le hbl' (show s1.heap.objs.size ≤ h3.objs.size by omega)
          · intro z
            rcases List.mem_cons.mp z with z | z
            · exact Nat.ne_of_lt hbl' z
            · cases z
        refine hel i v _ hPv' hb _ A' E' s₂ m₂ rfl rfl hn hm (fun y cc u hy hcell => ?_) kk rfl rfl
        obtain ⟨oc, hoc, hdc⟩ := hcell
        have hccP : cc ≠ P := fun z => by
          have := I1.freeC y cc hy
          rw [z, hP] at this
          cases this
        exact ⟨oc, kk cc oc hccP hoc, hdc⟩
    · intro g h5 tk5 gs hgb hag hsz5 hk5 W5 hat
      simp only [GxR.passing_true, List.length_range] at W5
      have hn0 : its.toArray.size = bs.length := hbl.symm
      refine hQ bs H1 g _ q1 ⟨_, _, _, _, _, by rw [← hn0]; exact W5.in4_1, hat, ?_, fun s' hm => ?_⟩
      · intro j y sj Qj Ej hy hQj
        obtain ⟨i, hij, rfl⟩ := hy
        obtain ⟨hj, ej⟩ := List.getElem?_eq_some_iff.mp hij
        rw [List.getElem_range] at ej
        subst ej
        exact wpAny_truthy_bool hQj
      · obtain ⟨more, em⟩ := hmore
        have nwr : ∀ b u, s1.heap.get? b = some u → b ∉ h3.objs.size :: [s1.heap.objs.size] := fun b u e hb => by
          have hl := Heap.lt_size e
          rcases List.mem_cons.mp hb with z | z
          · rw [z] at hl
            have h9 : (h3.objs.size : Nat) < s1.heap.objs.size := hl
            omega
          · rcases List.mem_cons.mp z with z | z
            · rw [z] at hl
              exact Nat.lt_irrefl _ hl
            · cases z
        have J := GxR.inv_tab (more := more) (h' := s'.heap) (g' := s'.gens) (d' := s'.drawn) (t' := s'.toks) I1 hP (fun b u hb e => hm.heap b u (nwr b u e) (hk5 b u (keep3 b u hb e)))
          (by rw [← em]; exact hm.heap P _ (nwr P _ hPs) (hk5 P _ hP3)) (AllBare.movedS (I1.bare.push hgb) hm)
        rw [GxR.sh_eta s1 s' hm.os] at J
        exact ⟨upd H1 P (.tbl (ps ++ more)), ⟨⟨ps ++ more, upd_same, by rw [← em]; exact ht3⟩, fun b hb => upd_ne hb⟩, J⟩
  refine ⟨lim2, ?_⟩
  cases hf : codeAmong gpos ps.toList with
  | none =>
    refine wpAny_genexprCodeX hcode (cd.code hP2 ht) (cd.tab hP2) hf fun c' h' tk hx hge hlt hco' _ htab' _ => ?_
    obtain ⟨o1, vs, f1, tf, fl, tg, inF, tx, tt, op, _, _, _, _, _, _, _, _, _, htr, _⟩ := hco'
    exact cont _ h' tk _ hx (Nat.le_trans hge (Nat.le_of_lt hlt)) htab'.2 ⟨_, rfl⟩ htr
  | some cv =>
    refine wpAny_genexprCode_hit hcode (cd.code hP2 ht) hf ?_
    exact cont cv (s1.heap.push o) s1.toks ps (Heap.ExtBut.refl _ _) (Nat.le_refl _) hP2 ⟨#[], by simp⟩ ht
/-- all(test for x in e), any(..) -/
def tGen (X : Cx) (P : Addr) (scope : Scope) (x : Str) (elt : Expr) (ag : List Bool → Bool) (te : TE) : TE := fun σ H Q => te σ H fun v H1 => ∃ (a : Addr) (xs : List V) (bs : List Bool), v = .ref a ∧ (SqT X.K H1 a xs ∨ SqL X.K H1 a xs) ∧ GxR.TabG H1 P ∧ bs.length = xs.length ∧
      (∀ (pins : List (Addr × Obj)) (its : List Value) (s1 : Shared), Inv X pins σ H1 s1 → Vals xs its → ∀ (i : Nat) (v : Value) (b : Bool), its[i]? = some v → bs[i]? = some b → EltT X P scope x elt s1 v b) ∧ ∀ H2, GxR.Tabbed P H1 H2 → Q (.bl (ag bs)) H2
theorem pe_allG {c P : Addr} {elt iter : Expr} {x : Str} {px p pos gpos : Pos} {scope : Scope} {te : TE} {k : Nat}
    (hr : Room k X.A) (hg : Gl X "all") (hm : X.mg "all" = none) (TB : GxR.TabB X.base X.mg c P) (hcode : X.env.code = .ref c) (S : GxR.GenS X.env scope x) (hi : PE X iter te) (hs : ∀ v, genFold iter X.env v = pure v) :
    PE X (.Call (.Name "all" p) [.GeneratorExp elt [⟨.Name x px, iter, [], 0⟩] scope gpos] [] pos) (tGen X P scope x elt (fun bs => bs.all id) te) := by
  have he : starEach [.GeneratorExp elt [⟨.Name x px, iter, [], 0⟩] scope gpos] X.env = (false, eval (.GeneratorExp elt [⟨.Name x px, iter, [], 0⟩] scope gpos) X.env) :: starEach [] X.env := rfl
  refine ⟨fun pins s σ H Q I h => ?_⟩
  refine wpAny_Call_Name_kw (ld_blt I hg hm boot_all ?_)
  refine PyProof.Rows.callWith_builtin1 ?_ he (by rfl)
  rw [he]
  show wpAny _ _ (spliced ((false, eval (.GeneratorExp elt [⟨.Name x px, iter, [], 0⟩] scope gpos) X.env) :: backTo pos (starEach [] X.env))) _ _ s
  refine Calls.spliced_cons (gen_any (R := fun bs H1 => ∀ H2, GxR.Tabbed P H1 H2 → Q (.bl (bs.all id)) H2) hr TB hcode S hi hs I h fun bs H1 g s5 hR hG => ?_)
  obtain ⟨fp, wr, G, F, St, W, hst, htr, hI⟩ := hG
  refine Calls.spliced_nil ?_
  refine call_all_walkS (W.self 0 _ _ _ hst ⟨g, fp, wr, G, _, F, St, _, rfl, W, hst, htr, fun s' hmv => ?_⟩)
  obtain ⟨H2, hT, J⟩ := hI s' hmv
  refine ⟨.bl _, H2, J, rfl, ?_⟩
  rw [all_trB bs]
  exact hR H2 hT
theorem pe_anyG {c P : Addr} {elt iter : Expr} {x : Str} {px p pos gpos : Pos} {scope : Scope} {te : TE} {k : Nat}
    (hr : Room k X.A) (hg : Gl X "any") (hm : X.mg "any" = none) (TB : GxR.TabB X.base X.mg c P) (hcode : X.env.code = .ref c) (S : GxR.GenS X.env scope x) (hi : PE X iter te) (hs : ∀ v, genFold iter X.env v = pure v) :
    PE X (.Call (.Name "any" p) [.GeneratorExp elt [⟨.Name x px, iter, [], 0⟩] scope gpos] [] pos) (tGen X P scope x elt (fun bs => bs.any id) te) := by
  have he : starEach [.GeneratorExp elt [⟨.Name x px, iter, [], 0⟩] scope gpos] X.env = (false, eval (.GeneratorExp elt [⟨.Name x px, iter, [], 0⟩] scope gpos) X.env) :: starEach [] X.env := rfl
  refine ⟨fun pins s σ H Q I h => ?_⟩
  refine wpAny_Call_Name_kw (ld_blt I hg hm boot_any ?_)
  refine PyProof.Rows.callWith_builtin1 ?_ he (by rfl)
  rw [he]
  show wpAny _ _ (spliced ((false, eval (.GeneratorExp elt [⟨.Name x px, iter, [], 0⟩] scope gpos) X.env) :: backTo pos (starEach [] X.env))) _ _ s
  refine Calls.spliced_cons (gen_any (R := fun bs H1 => ∀ H2, GxR.Tabbed P H1 H2 → Q (.bl (bs.any id)) H2) hr TB hcode S hi hs I h fun bs H1 g s5 hR hG => ?_)
  obtain ⟨fp, wr, G, F, St, W, hst, htr, hI⟩ := hG
  refine Calls.spliced_nil ?_
  refine call_any_walkS (W.self 0 _ _ _ hst ⟨g, fp, wr, G, _, F, St, _, rfl, W, hst, htr, fun s' hmv => ?_⟩)
  obtain ⟨H2, hT, J⟩ := hI s' hmv
  refine ⟨.bl _, H2, J, rfl, ?_⟩
  rw [any_trB bs]
  exact hR H2 hT
end
end Dv
/-! quiet tests: what stands in all(..) -/
namespace Dv
open PySem PySem.Spec L2 PyProof.Rows
/-- a value by its data, where these are an int or a truth -/
def QR (u : Value) : D → Prop
  | .int i => ∃ t, u = .int i t
  | .bl b => u = .bool b
  | _ => True
theorem keeps_trans {a b c : Shared} (h : Keeps a b) (h2 : Keeps b c) : Keeps a c := by
  obtain ⟨h1, t1, rfl, k1⟩ := h
  obtain ⟨h3, t3, rfl, k3⟩ := h2
  exact ⟨h3, t3, rfl, fun x o e => k3 x o (k1 x o e)⟩
/-- what a quiet operation does -/
def QOp (b : Value → Value → Sem Value) (f : D → D → Option D) : Prop := ∀ (prog : Program) (w : World) (A : Around) (E : Value → Shared → Prop) (s : Shared) (u v : Value) (x y z : D) (Q : Value → Shared → Prop), QR u x → QR v y → f x y = some z → (∀ r k, QR r z → Q r { s with toks := k }) → wpAny (model prog w) A (b u v) Q E s
def qi (g : Int → Int → Option D) : D → D → Option D
  | .int i, .int j => g i j
  | _, _ => none
theorem qop_of {b : Value → Value → Sem Value} {g : Int → Int → Option D} (h : ∀ (prog : Program) (w : World) (A : Around) (E : Value → Shared → Prop) (s : Shared) (i j : Int) (t t' : Tok) (z : D) (Q : Value → Shared → Prop), g i j = some z → (∀ r k, QR r z → Q r { s with toks := k }) → wpAny (model prog w) A (b (.int i t) (.int j t')) Q E s) : QOp b (qi g) := by
  intro prog w A E s u v x y z Q r1 r2 e q
  cases x <;> try cases e
  cases y <;> try cases e
  obtain ⟨t, rfl⟩ := r1
  obtain ⟨t', rfl⟩ := r2
  exact h prog w A E s _ _ t t' z Q e q
def qAdd : D → D → Option D := qi fun i j => some (.int (i + j))
def qSub : D → D → Option D := qi fun i j => some (.int (i - j))
def qMul : D → D → Option D := qi fun i j => if CMul i j then some (.int (i * j)) else none
def qMod : D → D → Option D := qi fun i j => if 0 < j then some (.int (i % j)) else none
def qShl : D → D → Option D := qi fun i j => if CShl i j then some (.int (i * 2 ^ j.toNat)) else none
def qEq : D → D → Option D := qi fun i j => some (.bl (decide (i = j)))
def qNe : D → D → Option D := qi fun i j => some (.bl (!decide (i = j)))
def qLt : D → D → Option D := qi fun i j => some (.bl (decide (i < j)))
def qLe : D → D → Option D := qi fun i j => some (.bl (decide (i ≤ j)))
def qGt : D → D → Option D := qi fun i j => some (.bl (decide (j < i)))
def qGe : D → D → Option D := qi fun i j => some (.bl (decide (j ≤ i)))
def qBin : Operator → Option (D → D → Option D)
  | .Add => some qAdd
  | .Sub => some qSub
  | .Mult => some qMul
  | .Mod => some qMod
  | .LShift => some qShl
  | _ => none
def qCmp : CmpOp → Option (D → D → Option D)
  | .Eq => some qEq
  | .NotEq => some qNe
  | .Lt => some qLt
  | .LtE => some qLe
  | .Gt => some qGt
  | .GtE => some qGe
  | _ => none
theorem qBin_ok {op : Operator} {f : D → D → Option D} (h : qBin op = some f) : QOp (binaryOp op) f := by
  cases op <;> simp only [qBin, Option.some.injEq, reduceCtorEq] at h <;> subst h
  · exact qop_of fun prog w A E s i j t t' z Q e q => by cases e; exact add_int (q _ _ ⟨_, rfl⟩)
  · exact qop_of fun prog w A E s i j t t' z Q e q => by cases e; exact sub_int (q _ _ ⟨_, rfl⟩)
  · refine qop_of fun prog w A E s i j t t' z Q e q => ?_
    split at e
    · rename_i hc
      cases e
      exact mul_int (q _ _ ⟨_, rfl⟩) hc.ok
    · cases e
  · refine qop_of fun prog w A E s i j t t' z Q e q => ?_
    split at e
    · rename_i hc
      cases e
      have em : i.fmod j = i % j := Int.fmod_eq_emod_of_nonneg _ (by omega)
      exact mod_int' (by omega) (by rw [em]; exact q _ _ ⟨_, rfl⟩)
    · cases e
  · refine qop_of fun prog w A E s i j t t' z Q e q => ?_
    split at e
    · rename_i hc
      cases e
      exact lshift_int hc.1 hc.2 (q _ _ ⟨_, rfl⟩)
    · cases e
theorem qCmp_ok {op : CmpOp} {f : D → D → Option D} (h : qCmp op = some f) : QOp (compareOp op) f := by
  have be : ∀ i j : Int, (i == j) = decide (i = j) := fun i j => by
    by_cases h : i = j <;> simp [h]
  have bn : ∀ i j : Int, (i != j) = !decide (i = j) := fun i j => by
    by_cases h : i = j <;> simp [h]
  cases op <;> simp only [qCmp, Option.some.injEq, reduceCtorEq] at h <;> subst h
  · exact qop_of fun prog w A E s i j t t' z Q e q => by cases e; exact eq_int (by rw [be]; exact q _ _ rfl)
  · exact qop_of fun prog w A E s i j t t' z Q e q => by cases e; exact ne_int (by rw [bn]; exact q _ _ rfl)
  · exact qop_of fun prog w A E s i j t t' z Q e q => by cases e; exact lt_int (q _ _ rfl)
  · exact qop_of fun prog w A E s i j t t' z Q e q => by cases e; exact le_int (q _ _ rfl)
  · exact qop_of fun prog w A E s i j t t' z Q e q => by cases e; exact gt_int (q _ _ rfl)
  · exact qop_of fun prog w A E s i j t t' z Q e q => by cases e; exact ge_int (q _ _ rfl)
theorem qCmp_behind {op : CmpOp} {f : D → D → Option D} (h : qCmp op = some f) (b : Expr) : behindInMarks op b = false := by
  cases op <;> simp only [qCmp, reduceCtorEq] at h <;> exact nobehind _ (by decide) (by decide)
/-! ### the readings of tests -/
/-- by the item and the slots -/
abbrev QF := D → En → Option D
def q1 (f : D → Option D) (a : QF) : QF := fun d ρ => (a d ρ).bind f
def q2 (f : D → D → Option D) (a b : QF) : QF := fun d ρ => match a d ρ, b d ρ with
  | some x, some y => f x y
  | _, _ => none
def qch (f g : D → D → Option D) (a b c : QF) : QF := fun d ρ => match a d ρ, b d ρ with
  | some x, some y => (match f x y with
    | some (.bl true) => (match c d ρ with
      | some z => g y z
      | none => none)
    | some (.bl false) => some (.bl false)
    | _ => none)
  | _, _ => none
def qIt : QF := fun d _ => some d
def qSl (i : Nat) : QF := fun _ ρ => slD ρ[i]?
def qCo (i : Int) : QF := fun _ _ => some (.int i)
def qNeg : D → Option D
  | .int i => some (.int (-i))
  | _ => none
def boolsOf (q : QF) (ρ : En) : List D → Option (List Bool)
  | [] => some []
  | d :: ds => match q d ρ, boolsOf q ρ ds with
    | some (.bl b), some bs => some (b :: bs)
    | _, _ => none
def itD : D → Option (List D)
  | .tup ds => some ds
  | .lst ds => some ds
  | _ => none
/-- all(test for x in e), any(..) -/
def genQ (m : M D) (q : QF) (ag : List Bool → Bool) : M D := fun ρ => (m ρ).bind fun d ρ1 => match itD d with
  | some ds => (match boolsOf q ρ1 ds with
    | some bs => .ok (.bl (ag bs)) ρ1
    | none => .bad)
  | none => .bad
def allB (bs : List Bool) : Bool := bs.all id
def anyB (bs : List Bool) : Bool := bs.any id
def qLen : D → Option D
  | .tup ds => some (.int ds.length)
  | _ => none
/-! pairs -/
def sndsOf : List D → Option (List D)
  | [] => some []
  | .tup [_, y] :: ds => (sndsOf ds).map fun ys => y :: ys
  | _ :: _ => none
/-- all(test of y for x, y in e) -/
def genP (m : M D) (q : QF) (ag : List Bool → Bool) : M D := fun ρ => (m ρ).bind fun d ρ1 => match d with
  | .tup ds => (match sndsOf ds with
    | some ys => (match boolsOf q ρ1 ys with
      | some bs => .ok (.bl (ag bs)) ρ1
      | none => .bad)
    | none => .bad)
  | _ => .bad
end Dv
/-! x.count(e) for a list of ints -/
namespace Dv
open PySem L2 PyProof.Rows
section
variable {F : Fx} {X : Cx} {e : Expr}
def cntB (ds : List D) (d : D) : Option Nat := match d with
  | .int k => (intsOf ds).map fun ns => ns.count k
  | _ => none
def cntM (i : Nat) (m : M D) : M D := fun ρ => match slD ρ[i]? with
  | some (.lst _) => (m ρ).bind fun d ρ' => (match slD ρ'[i]? with
    | some (.lst ds) => (match cntB ds d with
      | some j => .ok (.int (j : Nat)) ρ'
      | none => .bad)
    | _ => .bad)
  | _ => .bad
theorem e_count {o : Expr} {i : Nat} {m : M D} {fr : Bool} {apos cpos : Pos} (hK : X.K = F.K) (ho : PE X o (tVar i)) (po : plainBase o = true) (h : PE X e (rdE F m fr)) (pe : plainE e = true) (hline : (apos.endLine == cpos.line) = true) :
    PE X (.Call (.Attribute o "count" apos) [e] [] cpos) (rdE F (cntM i m) true) := by
  have pa : PA X [e] (tCons (rdE F m fr) tNil) := pa_cons h pa_nil (star_of pe _ _)
  have hstar : starEach [e] X.env = (false, eval e X.env) :: starEach [] X.env := star_of pe _ _
  refine peI (pe_bm PySem.F.plainAttrs_list PySem.F.slot_list_count PySem.F.type_list_count mt_lcount ho pa (base_of po) ?_ hline hstar rfl) fun σ H Q ⟨G, ρ, O, E, q⟩ => ?_
  · rw [hstar]; rfl
  · unfold cntM at q
    cases e0 : slD ρ[i]? with
    | none => rw [e0] at q; exact q.elim
    | some d0 =>
      rw [e0] at q
      cases d0 <;> try exact q.elim
      rename_i ds0
      obtain ⟨u, hu1, va⟩ := E.slot e0
      obtain ⟨p, vs0, rfl, h1, h2⟩ := va.lst' E.gh
      refine ⟨.ref p, hu1, .inl ⟨rfl, _, .inl (.inl h1)⟩, ?_⟩
      show rdE F m fr σ H fun y H2 => rCntI X.K (.ref p) [y] H2 Q
      refine ⟨G, ρ, O, E, ?_⟩
      simp only at q
      cases e1 : m ρ with
      | bad => rw [e1] at q; exact q
      | exc x ρ1 => rw [e1] at q; exact q
      | ok d ρ1 =>
        rw [e1] at q
        intro v G1 H1 O1 E1 s1 r1
        simp only [R.bind_ok] at q
        cases e2 : slD ρ1[i]? with
        | none => rw [e2] at q; exact q.elim
        | some d1 =>
          rw [e2] at q
          cases d1 <;> try exact q.elim
          rename_i ds
          simp only at q
          cases e3 : cntB ds d with
          | none => rw [e3] at q; exact q.elim
          | some j =>
            rw [e3] at q
            obtain ⟨u', hu2, va'⟩ := E1.slot e2
            rw [hu1] at hu2
            cases hu2
            obtain ⟨p', vs, ep, g1, g2⟩ := va'.lst' E1.gh
            cases ep
            unfold cntB at e3
            cases d <;> try cases e3
            rename_i k
            cases e4 : intsOf ds with
            | none => rw [e4] at e3; cases e3
            | some ns =>
              rw [e4] at e3
              cases e3
              have e5 := intsOf_eq e4
              subst e5
              have e6 := rp_ints g2
              subst e6
              have hv : v = .int k := by
                rcases r1 with ⟨p2, o2, hf, rfl, k1, k2, k3, _, _, k4⟩ | ⟨_, r1⟩
                · cases k4
                · cases r1
                  rfl
              subst hv
              exact ⟨p, ns, k, rfl, rfl, .inl (.inl g1), q _ G1 H1 O1 E1 s1 rv_int⟩
/-- x.index(e), x.count(e) -/
def icM (m : Str) : Nat → M D → M D := if m == ("index" : Str) then idxM else cntM
end
end Dv
/-! dicts of the def's own: {}, x[k] = e, x.get(k, e) -/
namespace Dv
open PySem L2 PyProof.Rows
def keyD : D → Option L2.Key
  | .int i => some (.inl i)
  | .str s => some (.inr s)
  | _ => none
def dput (ks : List L2.Key) (ds : List D) (k : L2.Key) (d : D) : List L2.Key × List D :=
  if ks.any (fun j => decide (j = k)) then (ks, List.zipWith (fun j e => if j = k then d else e) ks ds) else (ks ++ [k], ds ++ [d])
def dget : List L2.Key → List D → L2.Key → Option D
  | j :: ks, e :: ds, k => if j = k then some e else dget ks ds k
  | _, _, _ => none
theorem zip_any {κ α : Type} (p : κ → Bool) : ∀ (ks : List κ) (xs : List α), ks.length = xs.length → ((ks.zip xs).any fun kv => p kv.1) = ks.any p
  | [], _, _ => rfl
  | k :: ks, [], h => by cases h
  | k :: ks, x :: xs, h => by
    rw [List.zip_cons_cons, List.any_cons, List.any_cons, zip_any p ks xs (by simpa using h)]
theorem zip_put (k : L2.Key) (v : V) : ∀ (ks : List L2.Key) (xs : List V), ks.length = xs.length → (ks.zip xs).map (fun kv => if kv.1 = k then (kv.1, v) else kv) = ks.zip (List.zipWith (fun j e => if j = k then v else e) ks xs)
  | [], _, _ => rfl
  | j :: ks, [], h => by cases h
  | j :: ks, x :: xs, h => by
    rw [List.zip_cons_cons, List.map_cons, zip_put k v ks xs (by simpa using h), List.zipWith_cons_cons, List.zip_cons_cons]
    congr 1
    by_cases c : j = k
    · rw [if_pos c, if_pos c]
    · rw [if_neg c, if_neg c]
theorem rp_zip {K : Frg} {G : Hp} {k : L2.Key} {v : V} {d : D} (r : Rp K G v d) : ∀ (ks : List L2.Key) {xs : List V} {ds : List D}, RpAll K G xs ds → RpAll K G (List.zipWith (fun j e => if j = k then v else e) ks xs) (List.zipWith (fun j e => if j = k then d else e) ks ds)
  | [], _, _, _ => .nil
  | j :: ks, _, _, .nil => .nil
  | j :: ks, _, _, .cons a t => by
    refine .cons ?_ (rp_zip r ks t)
    show Rp K G (if j = k then v else _) (if j = k then d else _)
    by_cases c : j = k
    · rw [if_pos c, if_pos c]; exact r
    · rw [if_neg c, if_neg c]; exact a
theorem rp_snoc {K : Frg} {G : Hp} {v : V} {d : D} (r : Rp K G v d) : ∀ {xs : List V} {ds : List D}, RpAll K G xs ds → RpAll K G (xs ++ [v]) (ds ++ [d])
  | _, _, .nil => .cons r .nil
  | _, _, .cons a t => .cons a (rp_snoc r t)
theorem own_put {K : Frg} {G : Hp} {p : Addr} {ks : List L2.Key} {vs : List V} {ds : List D} {k : L2.Key} {v : V} {d : D} (hl : ks.length = vs.length) (h : RpAll K G vs ds) (r : Rp K G v d) : Own K G p (.dK (putK (ks.zip vs) k v)) (.dic (dput ks ds k d).1 (dput ks ds k d).2) := by
  unfold putK dput
  have ea : ((ks.zip vs).any fun kv => decide (kv.1 = k)) = ks.any (fun j => decide (j = k)) := zip_any (fun j => decide (j = k)) ks vs hl
  rw [ea]
  by_cases c : ks.any (fun j => decide (j = k)) = true
  · rw [if_pos c, if_pos c, zip_put k v ks vs hl]
    exact .dic (by rw [List.length_zipWith]; omega) (rp_zip r ks h)
  · rw [if_neg c, if_neg c]
    have e : ks.zip vs ++ [(k, v)] = (ks ++ [k]).zip (vs ++ [v]) := by
      rw [List.zip_append hl]
      rfl
    rw [e]
    exact .dic (by rw [List.length_append, List.length_append, hl]; rfl) (rp_snoc r h)
theorem key_kV {v : V} {d : D} {k : L2.Key} {K : Frg} {G H : Hp} (h : Vw K G H v d) (e : keyD d = some k) : v = kV k := by
  unfold keyD at e
  split at e
  · cases e
    exact h.int'
  · cases e
    exact h.str'
  · cases e
theorem dget_val {K : Frg} {G : Hp} {k : L2.Key} : ∀ {ks : List L2.Key} {vs : List V} {ds : List D}, ks.length = vs.length → RpAll K G vs ds → match dget ks ds k with
    | some d => ∃ v, valV (ks.zip vs) k = some v ∧ Rp K G v d
    | none => valV (ks.zip vs) k = none
  | [], [], _, _, .nil => rfl
  | [], _ :: _, _, h, _ => by cases h
  | _ :: _, [], _, h, _ => by cases h
  | j :: ks, v :: vs, _, h, .cons (d := d) (ds := ds) a t => by
    have ih := dget_val (k := k) (ks := ks) (by simpa using h) t
    show match (if j = k then some d else dget ks ds k) with
      | some d => ∃ v', valV ((j :: ks).zip (v :: vs)) k = some v' ∧ Rp K G v' d
      | none => valV ((j :: ks).zip (v :: vs)) k = none
    by_cases c : j = k
    · rw [if_pos c]
      exact ⟨v, by rw [List.zip_cons_cons]; exact valV_pos (p := (j, v)) c, a⟩
    · rw [if_neg c, List.zip_cons_cons]
      have e : valV ((j, v) :: ks.zip vs) k = valV (ks.zip vs) k := valV_neg (p := (j, v)) c
      rw [e]
      exact ih
section
variable {F : Fx} {X : Cx} {e f : Expr} {pos : Pos}
def dicM : M D := fun ρ => .ok (.dic [] []) ρ
theorem e_dic0 : PE X (.Dict [] [] pos) (rdE F dicM true) := by
  refine peI pe_dnewK fun σ H Q ⟨G, ρ, O, E, q⟩ => ?_
  exact E.new_dic (ks := []) (xs := []) rfl .nil q
def putS (j : Nat) (oi : Opd) (m : M D) : S := fun ρ => (m ρ).bind fun d ρ1 => match slD ρ1[j]? with
  | none => .bad
  | some _ => (evO [oi] ρ1).bind fun es ρ2 => (match es, ρ2[j]? with
    | [kd], some (.own (.dic ks ds)) => (match keyD kd with
      | some k => if ks.length < 16000000 then .ok .nx (ρ2.set j (.own (.dic (dput ks ds k d).1 (dput ks ds k d).2))) else .bad
      | none => .bad)
    | _, _ => .bad)
theorem s_dput {o ix : Expr} {j : Nat} {oi : Opd} {ti : TE} {m : M D} {fr : Bool} {p2 : Pos} (hu : X.A.units + 65 < cLine) (ho : PE X o (tVar j)) (hix : Op1 F X ix oi ti) (h : PE X e (rdE F m fr)) (hs : swapsWith e (some (.Subscript o ix p2)) pos.line X.env = pure false) :
    PS X (.Assign [.Subscript o ix p2] e pos) (rdS F (putS j oi m)) := by
  refine psI (ps_dput (by omega) ho hix.pe h hs) fun D σ H ⟨G, ρ, O, E, q⟩ => ?_
  show rdE F m fr σ H fun v H1 => tVar j σ H1 fun x H2 => ti σ H2 fun y H3 => ∃ a H4, x = .ref a ∧ DPut H3 a y v H4 ∧ D.nx σ H4
  refine rdE_stmt E q fun v d ρ1 G1 H1 O1 E1 s1 r1 q1 => ?_
  obtain ⟨G2, s2, E2, r2⟩ := E1.hold r1
  cases e0 : slD ρ1[j]? with
  | none => rw [e0] at q1; exact q1.elim
  | some d0 =>
    rw [e0] at q1
    simp only at q1
    obtain ⟨u, hu1, _⟩ := E2.slot e0
    refine ⟨u, hu1, ?_⟩
    show tList [ti] σ H1 (fun vs H2 => match vs with | [y] => ∃ a H4, u = .ref a ∧ DPut H2 a y v H4 ∧ D.nx σ H4 | _ => False)
    refine ops_stmt (f := fun es ρ2 => (match es, ρ2[j]? with
    | [kd], some (.own (.dic ks ds)) => (match keyD kd with
      | some k => if ks.length < 16000000 then .ok .nx (ρ2.set j (.own (.dic (dput ks ds k d).1 (dput ks ds k d).2))) else .bad
      | none => .bad)
    | _, _ => .bad)) (.cons hix .nil) E2 (Post.up q1 s2) fun vs es ρ2 G3 H3 O3 E3 s3 a3 q3 => ?_
    have va := a3.vw E3
    cases va with
    | nil => exact q3.elim
    | cons v1 t =>
      cases t with
      | cons _ _ => simp only at q3; exact q3.elim
      | nil =>
        rename_i y dy
        cases e5 : ρ2[j]? with
        | none => rw [e5] at q3; exact q3.elim
        | some s =>
          rw [e5] at q3
          cases s <;> try exact q3.elim
          rename_i dd
          cases dd <;> try exact q3.elim
          rename_i ks ds
          simp only at q3
          cases e6 : keyD dy with
          | none => rw [e6] at q3; exact q3.elim
          | some k =>
            rw [e6] at q3
            simp only at q3
            by_cases hz : ks.length < 16000000
            · rw [if_pos hz] at q3
              obtain ⟨p, o2, g1, g2, g3, g4, g5, g6⟩ := E3.own j _ e5
              rw [hu1] at g1
              cases g1
              cases g6
              rename_i vs hl hr
              have ek := key_kV v1 e6
              subst ek
              refine ⟨p, _, rfl, DPut.k g3 (by rw [List.length_zip, sizeLine_eq]; omega), ?_⟩
              exact q3 σ G3 _ O3 (E3.change e5 g2 hu1 g4 g5 (own_put hl hr (r2.up s3))) srfl
            · rw [if_neg hz] at q3
              exact q3.elim
/-- x[k] = e, for a list or a dict of the def's own -/
def setPS (j : Nat) (oi : Opd) (m : M D) : S := fun ρ => match ρ[j]? with
  | some (.own (.dic _ _)) => putS j oi m ρ
  | _ => setS j oi m ρ
theorem s_setP {o ix : Expr} {j : Nat} {oi : Opd} {ti : TE} {m : M D} {fr : Bool} {p2 : Pos} (hu : X.A.units + 65 < cLine) (ho : PE X o (tVar j)) (hix : Op1 F X ix oi ti) (h : PE X e (rdE F m fr)) (px : plainE ix = true) :
    PS X (.Assign [.Subscript o ix p2] e pos) (rdS F (setPS j oi m)) := by
  refine ⟨fun pins s σ H D I ⟨G, ρ, O, E, q⟩ => ?_⟩
  unfold setPS at q
  split at q
  · exact (s_dput hu ho hix h (by cases e <;> rfl)).run pins s σ H D I ⟨G, ρ, O, E, q⟩
  · exact (s_set ho hix h px).run pins s σ H D I ⟨G, ρ, O, E, q⟩
/-- x.get(k, e) -/
def getM (i : Nat) (mk me : M D) : M D := fun ρ => match slD ρ[i]? with
  | some (.dic _ _) => (mk ρ).bind fun kd ρ1 => (me ρ1).bind fun d0 ρ2 => (match slD ρ2[i]?, keyD kd with
    | some (.dic ks ds), some k => (match dget ks ds k with
      | some d => .ok d ρ2
      | none => .ok d0 ρ2)
    | _, _ => .bad)
  | _ => .bad
theorem e_dget {o : Expr} {i : Nat} {mk me : M D} {fk fe : Bool} {apos cpos : Pos} (hu : X.A.units + 65 < cLine) (ho : PE X o (tVar i)) (po : plainBase o = true) (hk : PE X e (rdE F mk fk)) (he : PE X f (rdE F me fe)) (pe1 : plainE e = true) (pe2 : plainE f = true) (hline : (apos.endLine == cpos.line) = true) :
    PE X (.Call (.Attribute o "get" apos) [e, f] [] cpos) (rdE F (getM i mk me) false) := by
  have hst : starEach [e, f] X.env = (false, eval e X.env) :: (false, eval f X.env) :: [] := by
    rw [star_of pe1 _ _, star_of pe2 _ _]
    rfl
  have m2 : M2 X o "get" apos e f cpos := ⟨base_of po, by rw [hst]; rfl, hline, by rw [hst]; rfl⟩
  refine peI (pe_dget2 (by omega) ho hk he m2) fun σ H Q ⟨G, ρ, O, E, q⟩ => ?_
  unfold getM at q
  cases e0 : slD ρ[i]? with
  | none => rw [e0] at q; exact q.elim
  | some d0 =>
    rw [e0] at q
    cases d0 <;> try exact q.elim
    rename_i ks0 ds0
    obtain ⟨u, hu1, va⟩ := E.slot e0
    obtain ⟨p, vs0, rfl, h1, h2, h3⟩ := va.dic' E.gh
    refine ⟨.ref p, hu1, p, rfl, .inl ⟨_, .inl h1⟩, ?_⟩
    refine ⟨G, ρ, O, E, ?_⟩
    simp only at q
    cases e1 : mk ρ with
    | bad => rw [e1] at q; exact q
    | exc x ρ1 => rw [e1] at q; exact q
    | ok kd ρ1 =>
      rw [e1] at q
      intro v1 G1 H1 O1 E1 s1 r1
      simp only [R.bind_ok] at q
      obtain ⟨G1', t1, E1', r1'⟩ := E1.hold r1
      refine ⟨G1', ρ1, O1, E1', ?_⟩
      cases e2 : me ρ1 with
      | bad => rw [e2] at q; exact q
      | exc x ρ2 => rw [e2] at q; exact fun c dx G' H' O' E' s' r' => q c dx G' H' O' E' ((s1.g.trans t1).trans s') r'
      | ok de ρ2 =>
        rw [e2] at q
        intro v2 G2 H2 O2 E2 s2 r2
        simp only [R.bind_ok] at q
        obtain ⟨G2', t2, E2', r2'⟩ := E2.hold r2
        cases e3 : slD ρ2[i]? with
        | none => rw [e3] at q; exact q.elim
        | some d1 =>
          rw [e3] at q
          cases d1 <;> try exact q.elim
          rename_i ks ds
          cases e4 : keyD kd with
          | none => rw [e4] at q; exact q.elim
          | some k =>
            rw [e4] at q
            simp only at q
            obtain ⟨u', hu2, va'⟩ := E2'.slot e3
            rw [hu1] at hu2
            cases hu2
            obtain ⟨p', vs, ep, g1, g2, g3⟩ := va'.dic' E2'.gh
            cases ep
            have ek := key_kV (H := H2) (.inl (r1'.up (s2.g.trans t2))) e4
            subst ek
            have hv := dget_val (k := k) g2 g3
            refine ⟨_, DGet.k g1, ?_⟩
            cases e5 : dget ks ds k with
            | some d =>
              rw [e5] at hv q
              obtain ⟨v, hv1, hv2⟩ := hv
              rw [hv1]
              exact q v G2' H2 O2 E2' ((s1.trans (.ofG t1)).trans (s2.trans (.ofG t2))) (.inr ⟨fun z => (nomatch z), hv2⟩)
            | none =>
              rw [e5] at hv q
              rw [hv]
              exact q v2 G2' H2 O2 E2' ((s1.trans (.ofG t1)).trans (s2.trans (.ofG t2))) (.inr ⟨fun z => (nomatch z), r2'⟩)
end
end Dv
/-! sorted(d.items()), keys and values ints -/
namespace Dv
open PySem PySem.Spec L2 PyProof.Rows
section
variable {X : Cx} {e : Expr} {te : TE} {p apos cpos pos : Pos} {pins : List (Addr × Obj)} {σ : L2.St} {H : Hp} {s : Shared}
theorem sortPO_in1 {a : Addr} {ys : List V} {k : V → Int × Int} {E : Value → Shared → Prop} {Q : Shared → Prop} (I : Inv X pins σ H s) (ha : H a = some (.lst ys)) (hx : ∀ y ∈ ys, ∃ t, y = V.ref t ∧ H t = some (.tup [.int (k y).1, .int (k y).2]))
    (q : ∀ zs s', SrtO.Srtd (ltP k) zs → SrtO.Stb (ltP k) zs ys → Inv X pins σ (upd H a (.lst zs)) s' → Q s') : wpAny (model X.prog X.w) X.A.in1 (call (.builtin "list.sort") [.ref a]) (fun _ s' => Q s') E s := by
  obtain ⟨hz, its, n, rv, hob⟩ := I.hok a _ ha
  obtain ⟨e1, e2⟩ := refs_back rv fun x m => by
    obtain ⟨t, e, _⟩ := hx x m
    exact ⟨t, e⟩
  have hp : ∀ v ∈ its, Srt.IsPair s.heap v (k (backV v)).1 (k (backV v)).2 := fun v hv => by
    obtain ⟨t, rfl⟩ := e2 v hv
    have hm : V.ref t ∈ ys := by rw [e1]; exact List.mem_map.mpr ⟨_, hv, rfl⟩
    obtain ⟨t', e, ht⟩ := hx _ hm
    cases e
    obtain ⟨_, its2, r2, o, ho, hc, n, hd⟩ := I.hok _ _ ht
    obtain ⟨u1, u2, rfl, ri, rj⟩ := vals2 r2
    obtain ⟨t1, rfl⟩ := ri
    obtain ⟨t2, rfl⟩ := rj
    exact ⟨t, o, t1, t2, n, rfl, ho, hc, hd⟩
  refine wpAny_call_entry PyProof.Rows.slot_list_sort ⟨_, hob, rfl⟩ PyProof.Rows.entry_list_sort
    (SrtO.list_sort_ord (SrtO.swo_lex fun u => k (backV u)) hob (by rw [← rv.length]; exact hz) (fun h2 => SrtO.pairs_sortableO (by omega) hp fun o e => ?_) fun out h1 h2 => ⟨.none, rfl, ?_⟩) (PyProof.Rows.args_list_sort _)
  · have e' : some o = some (seqObj "list" its.toArray n) := e.symm.trans hob
    cases e'
    intro c
    exact absurd (Value.type.inj c) (by decide)
  · have h3 : ∀ u ∈ out, ∃ a, u = Value.ref a := fun u hu => e2 u (h2.perm.mem_iff.mp hu)
    obtain ⟨ep, he'⟩ := PyProof.Rows.sortedHeap_at (vs := its) (out := out.toArray) hob
    have hb : SrtO.Stb (ltP k) (out.map backV) ys := by
      rw [e1]
      exact SrtO.Stb.map (ltP_swo k) backV h2
    have hlen : (out.map backV).length ≤ sizeLine := by
      rw [hb.len]
      exact hz
    refine q _ _ (SrtO.srtd_map h1) hb (I.write (e := a) (t' := s.toks) (by rw [ha]; trivial) (.inl rfl) (fun b u hb hu => ?_) ⟨_, he'⟩ ⟨hlen, out, ep, vals_back h3, he'⟩)
    rw [PyProof.Rows.sortedHeap_old hb (Heap.lt_size hu)]; exact hu
theorem items_laid2 {h' : Heap} {tk : Nat} {kvs : List (L2.Key × V)} {vs : List (L2.Key × Value)} {lo : Addr} {as : List Addr} (I : Inv X pins σ H s) (hz : kvs.length ≤ sizeLine) (kv : KV kvs vs) (hlo : s.heap.objs.size ≤ lo) (hlo2 : lo ≤ h'.objs.size)
    (hk : ∀ b o, s.heap.get? b = some o → h'.get? b = some o) (hl : as.length = vs.length) (hG : PySem.W.KdxG (mixKind X.prog X.w) vs lo h' as) :
    H h'.objs.size = none ∧ (∀ t ∈ as, H t = none) ∧ as.Nodup ∧ h'.objs.size ∉ as ∧ Paired (fun (t : Addr) (q : L2.Key × V) => LiI.putT H as kvs t = some (.tup [kV q.1, q.2])) as kvs ∧
    Inv X pins σ (upd (LiI.putT H as kvs) h'.objs.size (.lst (as.map V.ref))) { s with heap := h'.push { cls := .type "list", data := .seq (as.map Value.ref).toArray }, toks := tk } := by
  have lk : kvs.length = vs.length := Paired.length kv
  have nd : as.Nodup := List.Pairwise.imp (fun {a b} (h : a < b) => Nat.ne_of_lt h) hG.rise
  have new : ∀ t ∈ as, H t = none := fun t ht => I.hok.fresh (Nat.le_trans hlo (Nat.le_of_lt (hG.above t ht)))
  have newS : H h'.objs.size = none := I.hok.fresh (Nat.le_trans hlo hlo2)
  have asS : ∀ t ∈ as, t < h'.objs.size := fun t ht => by
    obtain ⟨j, hj⟩ := List.mem_iff_getElem?.mp ht
    obtain ⟨_, _, _, _, _, f3⟩ := hG.pairs j t hj
    exact Heap.lt_size f3
  have hSn : h'.objs.size ∉ as := fun z => Nat.lt_irrefl _ (asS _ z)
  have atP := LiI.putT_at as kvs H (by omega) nd
  have off : ∀ b, b ∉ as → LiI.putT H as kvs b = H b := fun b h1 => LiI.putT_off as kvs _ h1
  have hS0 : LiI.putT H as kvs h'.objs.size = none := by rw [off _ hSn]; exact newS
  have low : ∀ b o, s.heap.get? b = some o → b ∉ as ∧ b ≠ h'.objs.size := fun b o e => ⟨fun z => absurd (Heap.lt_size e) (Nat.not_lt.mpr (Nat.le_trans hlo (Nat.le_of_lt (hG.above b z)))), Nat.ne_of_lt (Heap.lt_size (hk b o e))⟩
  have kp : ∀ b u, H b = some u → upd (LiI.putT H as kvs) h'.objs.size (.lst (as.map V.ref)) b = some u := fun b u e => by
    rw [upd_ne (fun z => by rw [z, newS] at e; cases e), off b (fun z => by rw [new b z] at e; cases e)]
    exact e
  have hk2 : ∀ b o, s.heap.get? b = some o → (h'.push { cls := .type "list", data := .seq (as.map Value.ref).toArray }).get? b = some o := fun b o e => Heap.get?_push_of_some _ (hk b o e)
  refine ⟨newS, new, nd, hSn, atP, ?_⟩
  refine I.call' (ch := []) rfl ⟨fun b o q _ _ _ => hk2 b o q, fun b o q _ _ _ => ⟨o.slots, hk2 b o q⟩, fun b o q n _ => ?_, fun b o q _ => ⟨o, hk2 b o q⟩, fun b xs q => kp b _ q, fun b o u q => kp b _ q, fun b ps q => ⟨#[], by rw [kp b _ q]; simp⟩⟩ (fun b u q => ?_) I.bare fun b z => by simp at z
  · obtain ⟨z1, z2⟩ := low b o q
    rw [upd_ne z2, off b z1]
    exact n
  · by_cases hb2 : b = h'.objs.size
    · rw [hb2] at q ⊢
      rw [upd_same] at q
      cases q
      refine ⟨by rw [List.length_map]; omega, as.map Value.ref, 0, LiI.vals_refs as, ?_⟩
      exact Heap.get?_push_size _ rfl
    · rw [upd_ne hb2] at q
      by_cases hb : b ∈ as
      · obtain ⟨j, pk, e1, e2, e3⟩ := LiI.paired_ix atP hb
        rw [e3] at q
        cases q
        obtain ⟨key, k, x, f1, f2, f3⟩ := hG.pairs j b e1
        obtain ⟨qv, g1, g2, g3⟩ := LiI.paired_get kv e2
        rw [f1] at g1
        cases g1
        have rk : RelV (kV pk.1) key := by
          rw [g2]
          exact relV_key (show keyIs k key = true from f2)
        exact ⟨by show 2 ≤ sizeLine; decide, [key, x], .cons rk (.cons g3 .nil), ⟨_, Heap.get?_push_of_some _ f3, rfl, _, rfl⟩⟩
      · rw [off b hb] at q
        exact (I.hok b u q).stay (fun d v _ y => hk2 d v y) (fun d y => kp d _ y) fun d xs y => kp d _ y
def kvI (ks : List (Int × Int)) : List (L2.Key × V) := ks.map fun p => (Sum.inl p.1, V.int p.2)
def lexLe (a b : Int × Int) : Prop := a.1 < b.1 ∨ a.1 = b.1 ∧ a.2 ≤ b.2
def tSortItems (te : TE) : TE := fun σ H Q => te σ H fun x H1 => ∃ (d : Addr) (ks : List (Int × Int)), x = .ref d ∧ H1 d = some (.dK (kvI ks)) ∧
  ∀ (p : Addr) (ts : List Addr) (zs : List V) (k : V → Int × Int), H1 p = none → (∀ t ∈ ts, H1 t = none) → ts.Nodup → p ∉ ts → ts.length = ks.length → (∀ v ∈ zs, ∃ t, t ∈ ts ∧ v = .ref t ∧ LiI.putT H1 ts (kvI ks) t = some (.tup [.int (k v).1, .int (k v).2])) → (zs.map k).Perm ks → (zs.map k).Pairwise lexLe →
    Q (.ref p) (upd (LiI.putT H1 ts (kvI ks)) p (.lst zs))
/-- the pair at a tuple -/
def pairAt (as : List Addr) (ks : List (Int × Int)) : V → Int × Int
  | .ref t => ((as.zip ks).lookup t).getD (0, 0)
  | _ => (0, 0)
theorem pairAt_map : ∀ {as : List Addr} {ks : List (Int × Int)}, as.length = ks.length → as.Nodup → (as.map V.ref).map (pairAt as ks) = ks
  | [], [], _, _ => rfl
  | [], _ :: _, h, _ => by cases h
  | _ :: _, [], h, _ => by cases h
  | a :: as, k :: ks, h, n => by
    have n' := List.nodup_cons.mp n
    have ih := pairAt_map (as := as) (ks := ks) (by simpa using h) n'.2
    rw [List.map_cons, List.map_cons]
    have e1 : pairAt (a :: as) (k :: ks) (.ref a) = k := by
      show (((a, k) :: as.zip ks).lookup a).getD (0, 0) = k
      rw [List.lookup_cons_self]
      rfl
    rw [e1]
    congr 1
    refine Eq.trans ?_ ih
    refine List.map_congr_left fun v hv => ?_
    obtain ⟨t, ht, rfl⟩ := List.mem_map.mp hv
    show (((a, k) :: as.zip ks).lookup t).getD (0, 0) = ((as.zip ks).lookup t).getD (0, 0)
    have ne : (t == a) = false := by
      rw [beq_eq_false_iff_ne]
      exact fun z => n'.1 (z ▸ ht)
    rw [List.lookup_cons, ne]
theorem pe_sortedItems (hc : X.calm = true) (he : PE X e te) (hg : Gl X "sorted") (hm : X.mg "sorted" = none) (hbase : attributeBase e "items" X.env (eval e X.env) = eval e X.env) (hline : (apos.endLine == cpos.line) = true)
    (hs : starEach [.Call (.Attribute e "items" apos) [] [] cpos] X.env = (false, eval (.Call (.Attribute e "items" apos) [] [] cpos) X.env) :: starEach [] X.env := by rfl) :
    PE X (.Call (.Name "sorted" p) [.Call (.Attribute e "items" apos) [] [] cpos] [] pos) (tSortItems te) := by
  refine ⟨fun pins s σ H Q I hq => ?_⟩
  refine wpAny_Call_Name_kw (ld_blt I hg hm boot_sorted ?_)
  refine PyProof.Rows.callWith_builtin1 ?_ hs rfl
  rw [hs]
  show wpAny _ _ (spliced ((false, eval (.Call (.Attribute e "items" apos) [] [] cpos) X.env) :: backTo pos (starEach [] X.env))) _ _ s
  refine Calls.spliced_cons ?_
  refine wpAny_Call_method (T := "dict") (id := "dict.items") hbase rfl hline F.plainAttrs_dict F.slot_dict_items F.type_dict_items (thn (he.run pins s σ H _ I hq) fun u s1 ⟨x, H1, I1, rx, d, ks, ex, hd, q⟩ => ?_)
  subst ex
  obtain rfl : u = Value.ref d := rx
  obtain ⟨hz, hs0, vs, kv, hdo⟩ := I1.hok d _ hd
  obtain ⟨ep, hat⟩ := hdo.dictAt
  have lk : (kvI ks).length = vs.length := Paired.length kv
  refine ⟨hdo.typeIs, hdo.mapOf.noDict, ?_⟩
  show wpAny _ _ (callWith cpos (.builtin "dict.items") [.ref d] [] []) _ X.xe s1
  refine method_meetsIn F.slot_dict_items F.entry_dict_items rfl (PySem.evalArgs_none ⟨rfl, hdo.typeIs, F.args_dict_items_1 _, _, meets_dict_items (mixKind X.prog X.w) d hs0, ⟨vs, hdo⟩, ?_⟩)
  refine Calls.spliced_nil ?_
  show wpAny (model X.prog X.w) X.A (call (.builtin "sorted") [.ref s1.heap.objs.size]) _ X.xe { s1 with heap := s1.heap.push { cls := .type "dict_items", data := .fields #[.ref d] } }
  refine PySem.Calls.call_function_entry kind_sorted plain_sorted entry_sorted (args_sorted1 _) ?_
  unfold Builtin.«sorted»
  refine wpAny_bind (m := checkCount "sorted" 1 1 _) (wpAny_pure ?_)
  refine wpAny_bind (PySem.W.kdx_collect (A := X.A.in1) (knd := mixKind X.prog X.w) (kvs := vs) (ep := ep) (I1.ok.hd hc) ⟨_, Heap.get?_push_size _ rfl, rfl, rfl⟩ (hat.push _) (by omega) fun h' tk as hk hl hG => ?_)
  refine wpAny_bind (wpAny_newList ?_ (by rw [List.length_map, hl]; omega))
  have hk1 : ∀ b o, s1.heap.get? b = some o → h'.get? b = some o := fun b o e => hk b o (Heap.get?_push_of_some _ e)
  have hr : s1.heap.objs.size < h'.objs.size := Heap.lt_size (hk _ _ (Heap.get?_push_size _ rfl))
  have hlo2 : (s1.heap.push { cls := .type "dict_items", data := .fields #[.ref d] }).objs.size ≤ h'.objs.size := by rw [Heap.size_push]; exact hr
  obtain ⟨k1, k2, k3, k4, k5, J⟩ := items_laid2 (tk := tk) I1 hz kv (by rw [Heap.size_push]; exact Nat.le_succ _) hlo2 hk1 hl hG
  have lak : as.length = ks.length := by
    rw [hl, ← lk]
    unfold kvI
    rw [List.length_map]
  have key := pairAt_map lak k3
  have hxx : ∀ y ∈ as.map V.ref, ∃ t, t ∈ as ∧ y = V.ref t ∧ LiI.putT H1 as (kvI ks) t = some (.tup [.int (pairAt as ks y).1, .int (pairAt as ks y).2]) := fun y hy => by
    obtain ⟨t, ht, rfl⟩ := List.mem_map.mp hy
    obtain ⟨j, pk, e1, e2, e3⟩ := LiI.paired_ix k5 ht
    refine ⟨t, ht, rfl, ?_⟩
    rw [e3]
    unfold kvI at e2
    rw [List.getElem?_map] at e2
    cases e4 : ks[j]? with
    | none => rw [e4] at e2; cases e2
    | some kp =>
      rw [e4] at e2
      cases e2
      have e5 : pairAt as ks (.ref t) = kp := by
        have := congrArg (fun l => l[j]?) key
        simp only [List.getElem?_map, e1, Option.map_some, e4, Option.some.injEq] at this
        exact this
      rw [e5]
      rfl
  refine wpAny_bind (wpAny_holding (sortPO_in1 (k := pairAt as ks) J upd_same (fun y hy => ?_) fun zs s' hS hB I' => ?_))
  · obtain ⟨t, _, e1, e2⟩ := hxx y hy
    refine ⟨t, e1, ?_⟩
    rw [upd_ne ?_]
    · exact e2
    · intro z
      subst z
      rw [LiI.putT_off as _ _ k4, k1] at e2
      cases e2
  · refine wpAny_pure ⟨_, rfl, .ref h'.objs.size, _, I', rfl, ?_⟩
    rw [upd_upd]
    refine q _ as zs (pairAt as ks) k1 k2 k3 k4 lak (fun v hv => hxx v (hB.perm.mem_iff.mp hv)) ?_ ?_
    · have := hB.perm.map (pairAt as ks)
      rw [key] at this
      exact this
    · refine List.pairwise_map.mpr (hS.imp fun {a b} h => ?_)
      have := SrtO.lexB_no.mp (show SrtO.lexB (pairAt as ks b) (pairAt as ks a) = false from h)
      show _ ∨ _
      omega
end
/-! ### as read -/
theorem putT_agree {t : Addr} : ∀ (as : List Addr) (kvs : List (L2.Key × V)) (H G : Hp), as.length = kvs.length → t ∈ as → LiI.putT H as kvs t = LiI.putT G as kvs t
  | [], _, _, _, _, h => by cases h
  | _ :: _, [], _, _, h, _ => by cases h
  | a :: as, p :: kvs, H, G, hl, h => by
    show LiI.putT (upd H a (.tup [kV p.1, p.2])) as kvs t = LiI.putT (upd G a (.tup [kV p.1, p.2])) as kvs t
    by_cases ht : t ∈ as
    · exact putT_agree as kvs _ _ (by simpa using hl) ht
    · rcases List.mem_cons.mp h with z | z
      · subst z
        rw [LiI.putT_off as kvs _ ht, LiI.putT_off as kvs _ ht, upd_same, upd_same]
      · exact absurd z ht
def lexLeB (a b : Int × Int) : Bool := decide (a.1 < b.1) || (decide (a.1 = b.1) && decide (a.2 ≤ b.2))
def insP (n : Int × Int) : List (Int × Int) → List (Int × Int)
  | [] => [n]
  | m :: r => if lexLeB n m then n :: m :: r else m :: insP n r
def sortP : List (Int × Int) → List (Int × Int)
  | [] => []
  | n :: r => insP n (sortP r)
theorem lexB_le {a b : Int × Int} : lexLeB a b = true ↔ lexLe a b := by
  unfold lexLeB lexLe
  simp
theorem lexLe_tot {a b : Int × Int} (h : ¬ lexLe a b) : lexLe b a := by
  unfold lexLe at *
  omega
theorem lexLe_trans {a b c : Int × Int} (h : lexLe a b) (h2 : lexLe b c) : lexLe a c := by
  unfold lexLe at *
  omega
theorem lexLe_anti {a b : Int × Int} (h : lexLe a b) (h2 : lexLe b a) : a = b := by
  unfold lexLe at *
  exact Prod.ext (by omega) (by omega)
theorem insP_perm (n : Int × Int) : ∀ l, (insP n l).Perm (n :: l)
  | [] => .refl _
  | m :: r => by
    unfold insP
    split
    · exact .refl _
    · exact ((insP_perm n r).cons m).trans (List.Perm.swap n m r)
theorem sortP_perm : ∀ l, (sortP l).Perm l
  | [] => .refl _
  | n :: r => (insP_perm n _).trans ((sortP_perm r).cons n)
theorem insP_pw (n : Int × Int) : ∀ l, l.Pairwise lexLe → (insP n l).Pairwise lexLe
  | [], _ => List.pairwise_singleton _ _
  | m :: r, h => by
    have h' := List.pairwise_cons.mp h
    unfold insP
    split
    · rename_i c
      have c' := lexB_le.mp c
      refine List.pairwise_cons.mpr ⟨fun x hx => ?_, h⟩
      rcases List.mem_cons.mp hx with rfl | hx
      · exact c'
      · exact lexLe_trans c' (h'.1 x hx)
    · rename_i c
      have c' : lexLe m n := lexLe_tot fun z => c (lexB_le.mpr z)
      refine List.pairwise_cons.mpr ⟨fun x hx => ?_, insP_pw n r h'.2⟩
      rcases List.mem_cons.mp ((insP_perm n r).mem_iff.mp hx) with rfl | hx
      · exact c'
      · exact h'.1 x hx
theorem sortP_pw : ∀ l, (sortP l).Pairwise lexLe
  | [] => List.Pairwise.nil
  | n :: r => insP_pw n _ (sortP_pw r)
theorem lex_uniq : ∀ {l m : List (Int × Int)}, l.Perm m → l.Pairwise lexLe → m.Pairwise lexLe → l = m
  | [], m, h, _, _ => h.nil_eq
  | x :: l, [], h, _, _ => absurd h.length_eq (by simp)
  | x :: l, y :: m, h, hl, hm => by
    have hl' := List.pairwise_cons.mp hl
    have hm' := List.pairwise_cons.mp hm
    have e : x = y := by
      have h1 : lexLe x y := by
        rcases List.mem_cons.mp (h.mem_iff.mpr (List.mem_cons_self (a := y) (l := m))) with e | hy
        · rw [e]; unfold lexLe; omega
        · exact hl'.1 y hy
      have h2 : lexLe y x := by
        rcases List.mem_cons.mp (h.mem_iff.mp (List.mem_cons_self (a := x) (l := l))) with e | hy
        · rw [e]; unfold lexLe; omega
        · exact hm'.1 x hy
      exact lexLe_anti h1 h2
    subst e
    rw [lex_uniq h.cons_inv hl'.2 hm'.2]
def pairsK : List L2.Key → List D → Option (List (Int × Int))
  | [], [] => some []
  | .inl i :: ks, .int j :: ds => (pairsK ks ds).map fun r => (i, j) :: r
  | _, _ => none
def prD (p : Int × Int) : D := .tup [.int p.1, .int p.2]
/-- sorted(x.items()) -/
def sitM (i : Nat) : M D := fun ρ => match slD ρ[i]? with
  | some (.dic ks ds) => (match pairsK ks ds with
    | some ps => .ok (.lst ((sortP ps).map prD)) ρ
    | none => .bad)
  | _ => .bad
theorem pairsK_zip {K : Frg} {G : Hp} : ∀ {ks : List L2.Key} {ds : List D} {vs : List V} {ps : List (Int × Int)}, pairsK ks ds = some ps → RpAll K G vs ds → ks.zip vs = kvI ps
  | [], [], _, _, h, .nil => by cases h; rfl
  | [], _ :: _, _, _, h, _ => by cases h
  | .inl _ :: _, [], _, _, h, _ => by cases h
  | .inr _ :: _, _, _, _, h, _ => by cases h
  | .inl i :: ks, d :: ds, _, ps, h, .cons a t => by
    cases d <;> try cases h
    rename_i j
    unfold pairsK at h
    cases e : pairsK ks ds with
    | none => rw [e] at h; cases h
    | some r =>
      rw [e] at h
      cases h
      cases a
      have ih := pairsK_zip e t
      show (_, _) :: ks.zip _ = _
      rw [ih]
      rfl
section
variable {F : Fx} {X : Cx} {σ : L2.St} {ρ : En} {O : Nat → List Addr} {G H : Hp}
theorem Er.putT : ∀ (as : List Addr) (kvs : List (L2.Key × V)) {G H : Hp}, Er F G H σ ρ O → as.length = kvs.length → as.Nodup → (∀ t ∈ as, H t = none) → Er F (LiI.putT G as kvs) (LiI.putT H as kvs) σ ρ O ∧ Same G (LiI.putT G as kvs)
  | [], [], G, H, E, _, _, _ => ⟨E, srfl⟩
  | [], _ :: _, _, _, _, h, _, _ => by cases h
  | _ :: _, [], _, _, _, h, _, _ => by cases h
  | a :: as, p :: kvs, G, H, E, hl, hn, h0 => by
    have hn' := List.nodup_cons.mp hn
    have h1 := h0 a (List.mem_cons_self ..)
    obtain ⟨E2, s2⟩ := Er.putT as kvs (E.froz (o := .tup [kV p.1, p.2]) h1) (by simpa using hl) hn'.2 fun t ht => by
      have ne : t ≠ a := fun z => hn'.1 (by rw [← z]; exact ht)
      rw [upd_ne ne]
      exact h0 t (List.mem_cons_of_mem _ ht)
    exact ⟨E2, (same_new (E.gnone h1)).trans s2⟩
theorem rps_pairs {K : Frg} {G : Hp} {k : V → Int × Int} : ∀ (zs : List V), (∀ v ∈ zs, Rp K G v (prD (k v))) → RpAll K G zs ((zs.map k).map prD)
  | [], _ => .nil
  | v :: zs, h => .cons (h v (List.mem_cons_self ..)) (rps_pairs zs fun u hu => h u (List.mem_cons_of_mem _ hu))
theorem e_sortItems {o : Expr} {i : Nat} {p apos cpos pos : Pos} (hK : X.K = F.K) (hc : X.calm = true) (ho : PE X o (tVar i)) (po : plainBase o = true) (hg : Gl X "sorted") (hm : X.mg "sorted" = none) (hline : (apos.endLine == cpos.line) = true) :
    PE X (.Call (.Name "sorted" p) [.Call (.Attribute o "items" apos) [] [] cpos] [] pos) (rdE F (sitM i) true) := by
  refine peI (pe_sortedItems hc ho hg hm (base_of po) hline) fun σ H Q ⟨G, ρ, O, E, q⟩ => ?_
  unfold sitM at q
  cases e0 : slD ρ[i]? with
  | none => rw [e0] at q; exact q.elim
  | some d0 =>
    rw [e0] at q
    cases d0 <;> try exact q.elim
    rename_i ks ds
    simp only at q
    cases e1 : pairsK ks ds with
    | none => rw [e1] at q; exact q.elim
    | some ps =>
      rw [e1] at q
      obtain ⟨u, hu1, va⟩ := E.slot e0
      obtain ⟨a, vs, rfl, h1, h2, h3⟩ := va.dic' E.gh
      rw [pairsK_zip e1 h3] at h1
      refine ⟨.ref a, hu1, a, ps, rfl, h1, fun p ts zs k hp hts nd hpn hlen hz hperm hpw => ?_⟩
      have hl2 : ts.length = (kvI ps).length := by unfold kvI; rw [List.length_map, hlen]
      obtain ⟨E2, s2⟩ := E.putT ts (kvI ps) hl2 nd hts
      have ek : zs.map k = sortP ps := lex_uniq (hperm.trans (sortP_perm ps).symm) hpw (sortP_pw ps)
      have hp2 : LiI.putT H ts (kvI ps) p = none := by rw [LiI.putT_off _ _ _ hpn]; exact hp
      have hr : RpAll F.K (LiI.putT G ts (kvI ps)) zs ((zs.map k).map prD) := rps_pairs zs fun v hv => by
        obtain ⟨t, ht, rfl, e⟩ := hz v hv
        rw [putT_agree ts (kvI ps) H G hl2 ht] at e
        exact .tup (.inl (.inl e)) (.cons (.int _) (.cons (.int _) .nil))
      rw [ek] at hr
      exact E2.new_lst hr (fun v G' H' O' E' s' r' => q v G' H' O' E' ((Stp.ofG s2).trans s') r') p hp2
end
end Dv
namespace Dv
open PySem L2 PyProof.Rows
/-! ### from a text to its functional reading -/
def mapO {α β : Type} (f : α → Option β) : List α → Option (List β)
  | [] => some []
  | a :: as => match f a, mapO f as with
    | some b, some bs => some (b :: bs)
    | _, _ => none
def okName (x : Str) : Bool := !(x == ("__debug__" : Str)) && !(x == ("__classdict__" : Str)) && !(x == ("__name__" : Str))
def ixOf (x : Str) : List Str → Nat → Option Nat
  | [], _ => none
  | y :: ys, i => if x == y then some i else ixOf x ys (i + 1)
def slotIx (N : List Str) (sc : Scope) (x : Str) : Option Nat :=
  if okName x then (match sc.names.lookup x with
    | some .local => ixOf x N 0
    | some .cell => ixOf x N 0
    | some .free => ixOf x N 0
    | _ => none) else none
def locIx (N : List Str) (sc : Scope) (x : Str) : Option Nat :=
  match sc.names.lookup x with
    | some .local => ixOf x N 0
    | some .cell => ixOf x N 0
    | _ => none
def compQ (lf : Bool) (x : Str) (N : List Str) (sc scope : Scope) : Nat → Expr → Option QF
  | 0, _ => none
  | n + 1, e => match e with
    | .Constant (.int i) _ _ => some (qCo i)
    | .Name y _ => if okName y then (if y == x then some qIt else if scope.names.lookup y == some .free then (slotIx N sc y).map qSl else none) else none
    | .BinOp a op b _ => (match qBin op, compQ lf x N sc scope n a, compQ lf x N sc scope n b with
      | some f, some p, some q => some (q2 f p q)
      | _, _, _ => none)
    | .UnaryOp .USub a _ => (compQ lf x N sc scope n a).map (q1 qNeg)
    | .Compare a [op] [b] _ => (match qCmp op, compQ lf x N sc scope n a, compQ lf x N sc scope n b with
      | some f, some p, some q => some (q2 f p q)
      | _, _, _ => none)
    | .Compare a [op, op'] [b, c] _ => (match qCmp op, qCmp op', compQ lf x N sc scope n a, compQ lf x N sc scope n b, compQ lf x N sc scope n c with
      | some f, some g, some p, some q, some r => some (qch f g p q r)
      | _, _, _, _, _ => none)
    | .Call (.Name f _) [.Name y _] [] _ => if lf && (f == ("len" : Str) && (y == x && (okName y && scope.names.lookup ("len" : Str) == some .globalImplicit))) then some (q1 qLen qIt) else none
    | _ => none
/-- a generator expression's own scope, as it is read: one name, captured ones of the def -/
def genS (sc scope : Scope) (x : Str) : Bool := scope.kind == .function && (!scope.isCoroutine && (scope.names.all (fun y => y.2 != .cell) && (scope.names.lookup (".0" : Str) == some NameKind.local && (scope.names.lookup x == some .local && scope.names.all fun y => y.2 != .free || (sc.names.lookup y.1 == some .cell || sc.names.lookup y.1 == some .free)))))
def iterPl : Expr → Bool
  | .Name _ _ => true
  | .Call _ _ _ _ => true
  | _ => false
def isGlob (sc : Scope) (x : Str) : Bool := okName x && (match sc.names.lookup x with
  | some .globalImplicit => true
  | _ => false)
def constD : Const → Option D
  | .none => some .non
  | .bool b => some (.bl b)
  | .int i => some (.int i)
  | .str s => some (.str s)
  | _ => none
def compTg (N : List Str) (sc : Scope) : Nat → Expr → Option Tg
  | 0, _ => none
  | n + 1, e => match e with
    | .Name x _ => (locIx N sc x).map Tg.nm
    | .Tuple es _ _ => if es.all tgPlain then (mapO (compTg N sc n) es).map Tg.tp else none
    | _ => none
def boolV (op : BoolOp) : List (M D × Bool) → Option (M D × Bool)
  | [] => none
  | [m] => some m
  | m :: ms => (boolV op ms).map fun r => ((match op with
    | .And => andV m.1 r.1
    | .Or => orV m.1 r.1), false)
def boolT (op : BoolOp) : List (M Bool) → Option (M Bool)
  | [] => none
  | [m] => some m
  | m :: ms => (boolT op ms).map fun r => match op with
    | .And => andM m r
    | .Or => orM m r
def cbTab : List (Str × (List D → Option D)) :=
  [("len", f1 lenD), ("abs", f1 absD), ("sum", f1 sumD), ("max", maxL), ("min", minL), ("sorted", f1 sortedD), ("any", f1 anyD), ("all", f1 allD), ("int", f1 intD), ("tuple", f1 tupleD), ("list", f1 listD)]
def memS (x : Str) (l : List Str) : Bool := l.any (· == x)
def fnOf (T : Tab) (x : Str) : Option FnE := T.fns.find? fun e => e.name == x
def lookS {α : Type} (x : Str) : List (Str × α) → Option α
  | [] => none
  | (y, a) :: r => if x == y then some a else lookS x r
def isiTy (x : Str) : Option String := lookS x [("int", "int"), ("bool", "bool"), ("str", "str"), ("tuple", "tuple"), ("list", "list"), ("dict", "dict")]
section
variable (T : Tab) (N : List Str)
def opdOf (ce : Scope → Expr → Option (M D × Bool)) (sc : Scope) (e : Expr) : Option Opd := match e with
  | .Name x _ => (match slotIx N sc x with
    | some i => some (.va i)
    | none => (ce sc e).map fun r => .ex r.1)
  | _ => (ce sc e).map fun r => .ex r.1
def ownOf (scope : Scope) : List (Str × Nat) := scope.names.filterMap fun q => match q.2 with
  | .local => (ixOf q.1 N 0).map fun i => (q.1, i)
  | .cell => (ixOf q.1 N 0).map fun i => (q.1, i)
  | _ => none
def badM : M D := fun _ => .bad
def raiS (x : Exn) : S := fun ρ => .exc x ρ
/-- f(e.thing, y) -/
def thM (f : Fn) (y : Str) (x : Exn) : M D := match lookS ("thing" : Str) x.fs with
  | some d => callM f [.ex (retM d), .ex (retM (.str y))]
  | none => badM
/-- nothing is raised -/
def okM (m : M D) : M D := fun ρ => match m ρ with
  | .exc _ _ => .bad
  | r => r
/-- try: b; except h as e (slot i): return su -/
def tryS (h : Str) (b : S) (i : Nat) (su : Exn → M D) (fr : Bool) : S := fun ρ => match b ρ with
  | .exc x ρ1 => if x.cls = h then (if i < ρ1.length then retS (okM (su x)) fr (ρ1.set i .no) else .bad) else .exc x ρ1
  | r => r
def badS : S := fun _ => .bad
/-- what may be called within an except suite, too -/
def quietCb : List Str := ["len", "abs", "sorted", "int", "tuple", "list"]
/-- what is not read within an except suite -/
def needCalm (e : Expr) : Bool := match e with
  | .ListComp .. => true
  | .Call (.Name x _) _ _ _ => (lookS x cbTab).isSome && !memS x quietCb
  | _ => false
mutual
def compE : Nat → Scope → Expr → Option (M D × Bool)
  | 0, _, _ => none
  | n + 1, sc, e => if T.hot && needCalm e then some (badM, true) else match e with
    | .Constant c _ _ => (constD c).map fun d => (retM d, false)
    | .Name x _ => (match slotIx N sc x with
      | some i => some (varM i, false)
      | none => if isGlob sc x then (lookS x T.cons).map fun d => (retM d, false) else none)
    | .BinOp a op b _ => (match op2D op, opdOf N (compE n) sc a, opdOf N (compE n) sc b with
      | some f, some oa, some ob => some (opM (f2 f) [oa, ob], true)
      | _, _, _ => none)
    | .UnaryOp .USub a _ => (opdOf N (compE n) sc a).map fun o => (opM (f1 negD) [o], true)
    | .UnaryOp .Not a _ => (opdOf N (compE n) sc a).map fun o => (tvM (notM (truM o)), true)
    | .BoolOp op vs _ => (mapO (compE n sc) vs).bind (boolV op)
    | .IfExp c a b _ => (match compT n sc c, compE n sc a, compE n sc b with
      | some t, some p, some q => some (iteM t p.1 q.1, p.2 && q.2)
      | _, _, _ => none)
    | .Compare a [op] [b] _ => if plainE b then (match opdOf N (compE n) sc a, opdOf N (compE n) sc b with
      | some oa, some ob => some (opM (f2 (cmpD op)) [oa, ob], true)
      | _, _ => none) else none
    | .Compare a [op, op'] [b, c] _ => if plainE b && plainE c then (match opdOf N (compE n) sc a, opdOf N (compE n) sc b, opdOf N (compE n) sc c with
      | some oa, some ob, some oc => some (chainM (cmpD op) (cmpD op') oa ob oc, true)
      | _, _, _ => none) else none
    | .Tuple es _ _ => if es.all plainE && decide (es.length ≤ 10000) then (mapO (compE n sc) es).map fun ms => (tupM (ms.map (·.1)), false) else none
    | .List es _ => if es.all plainE && decide (es.length ≤ 10000) then (mapO (compE n sc) es).map fun ms => (lstM (ms.map (·.1)), true) else none
    | .Dict [] [] _ => some (dicM, true)
    | .Subscript a (.Slice none none none _) _ => (opdOf N (compE n) sc a).map fun o => (opM sl0 [o], true)
    | .Subscript a (.Slice (some c) none none _) _ => (match opdOf N (compE n) sc a, opdOf N (compE n) sc c with
      | some oa, some oc => some (opM slL [oa, oc], true)
      | _, _ => none)
    | .Subscript a (.Slice none (some c) none _) _ => (match opdOf N (compE n) sc a, opdOf N (compE n) sc c with
      | some oa, some oc => some (opM slH [oa, oc], true)
      | _, _ => none)
    | .Subscript a (.Slice (some c) (some c2) none _) _ => (match opdOf N (compE n) sc a, opdOf N (compE n) sc c, opdOf N (compE n) sc c2 with
      | some oa, some oc, some oc2 => some (slB oa oc oc2, true)
      | _, _, _ => none)
    | .Subscript a b _ => if plainE b then (match opdOf N (compE n) sc a, opdOf N (compE n) sc b with
      | some oa, some ob => some (opM (f2 ixD) [oa, ob], false)
      | _, _ => none) else none
    | .Call (.Name f _) [.GeneratorExp elt [⟨.Name x _, iter, [], 0⟩] scope _] [] _ => if (f == ("all" : Str) || f == ("any" : Str)) && (memS f T.free && (isGlob sc f && (iterPl iter && genS sc scope x))) then (match compE n sc iter, compQ (memS ("len" : Str) T.free) x N sc scope n elt with
      | some m, some q => some (genQ m.1 q (if f == ("all" : Str) then allB else anyB), true)
      | _, _ => none) else none
    | .Call (.Name f _) [.GeneratorExp elt [⟨.Tuple [.Name xa _, .Name x _] _ _, iter, [], 0⟩] scope _] [] _ => if (f == ("all" : Str) || f == ("any" : Str)) && (memS f T.free && (isGlob sc f && (iterPl iter && (genS sc scope x && (scope.names.lookup xa == some .local && xa != x))))) then (match compE n sc iter, compQ (memS ("len" : Str) T.free) x N sc scope n elt with
      | some m, some q => some (genP m.1 q (if f == ("all" : Str) then allB else anyB), true)
      | _, _ => none) else none
    | .Call (.Name f _) [.Call (.Attribute (.Name x _) m apos) [] [] cpos] [] _ => if f == ("sorted" : Str) && (m == ("items" : Str) && (!T.hot && (memS f T.free && (isGlob sc f && apos.endLine == cpos.line)))) then (slotIx N sc x).map fun i => (sitM i, true) else none
    | .Call (.Name x _) es [] _ => if isGlob sc x && es.all plainE then (match fnOf T x with
      | some f => if es.length = f.ar then (mapO (opdOf N (compE n) sc) es).map fun os => (callM f.sem os, true) else none
      | none => if memS x T.free then (match lookS x cbTab, es with
        | some f, _ :: _ => (mapO (opdOf N (compE n) sc) es).map fun os => (opM f os, true)
        | none, [a, .Name tn _] => if x == ("isinstance" : Str) && (isGlob sc tn && memS tn T.free) then (match isiTy tn, opdOf N (compE n) sc a with
            | some ty, some o => some (opM (f1 (isiD ty)) [o], true)
            | _, _ => none) else none
        | _, _ => none) else none) else none
    | .Call (.Attribute (.Constant (.str s) _ _) m apos) [e] [] cpos => if m == ("join" : Str) && (plainE e && apos.endLine == cpos.line) then (opdOf N (compE n) sc e).map fun o => (opM (f1 (joinD (.str s))) [o], true) else none
    | .Call (.Attribute (.Name x _) m apos) [e] [] cpos => if (m == ("index" : Str) || m == ("count" : Str)) && (plainE e && apos.endLine == cpos.line) then (match slotIx N sc x, compE n sc e with
      | some i, some r => some (icM m i r.1, true)
      | _, _ => none) else none
    | .Call (.Attribute (.Name x _) m apos) [e, f] [] cpos => if m == ("get" : Str) && (plainE e && (plainE f && apos.endLine == cpos.line)) then (match slotIx N sc x, compE n sc e, compE n sc f with
      | some i, some r, some q => some (getM i r.1 q.1, false)
      | _, _, _ => none) else none
    | .ListComp elt [⟨tg, iter, ifs, 0⟩] scope _ => if plainE iter && blkC N sc scope (ownOf N scope) then
        (match compI n sc tg iter, compTg N scope n tg, compE n (relS scope sc) elt with
        | some mi, some t, some m => if (tgSlots t).all fun i => (ownOf N scope).any fun q => q.2 == i then (match ifs with
          | [] => some (compM mi ((ownOf N scope).map (·.2)) t yesM m.1, true)
          | [c] => (compT n (relS scope sc) c).map fun cc => (compM mi ((ownOf N scope).map (·.2)) t cc m.1, true)
          | _ => none) else none
        | _, _, _ => none) else none
    | _ => none
def compT : Nat → Scope → Expr → Option (M Bool)
  | 0, _, _ => none
  | n + 1, sc, e => match e with
    | .Compare a [op] [b] _ => if plainE b then (match opdOf N (compE n) sc a, opdOf N (compE n) sc b with
      | some oa, some ob => some (boolM (opM (f2 (cmpD op)) [oa, ob]))
      | _, _ => none) else none
    | .Compare a [op, op'] [b, c] _ => if plainE b && plainE c then (match opdOf N (compE n) sc a, opdOf N (compE n) sc b, opdOf N (compE n) sc c with
      | some oa, some ob, some oc => some (boolM (chainM (cmpD op) (cmpD op') oa ob oc))
      | _, _, _ => none) else none
    | .BoolOp op vs _ => (mapO (compT n sc) vs).bind (boolT op)
    | .UnaryOp .Not a _ => (compT n sc a).map notM
    | e => if truthKind e then (opdOf N (compE n) sc e).map truM else none
def compI : Nat → Scope → Expr → Expr → Option (M (List D))
  | 0, _, _, _ => none
  | n + 1, sc, tg, e => match e with
    | .Call (.Name x _) [a] [] _ => if x == ("range" : Str) && (memS x T.free && (isGlob sc x && plainE a)) then (opdOf N (compE n) sc a).map fun o => opI rng1 [o]
        else if x == ("enumerate" : Str) && (memS x T.free && (isGlob sc x && (plainE a && isTup tg))) then (match a with
          | .Call (.Name y _) [a1, b1, c1] [] _ => if y == ("range" : Str) && (memS y T.free && (isGlob sc y && (plainE a1 && (plainE b1 && plainE c1)))) then (match opdOf N (compE n) sc a1, opdOf N (compE n) sc b1, opdOf N (compE n) sc c1 with
            | some oa, some ob, some oc => some (opI enuR [oa, ob, oc])
            | _, _, _ => none) else (compE n sc a).map fun oa => opI enuD [.ex oa.1]
          | a => (compE n sc a).map fun oa => opI enuD [.ex oa.1])
        else (compE n sc e).map fun m => seqM m.1
    | .Call (.Name x _) [a, b] [] _ => if x == ("range" : Str) && (memS x T.free && (isGlob sc x && (plainE a && plainE b))) then (match opdOf N (compE n) sc a, opdOf N (compE n) sc b with
        | some oa, some ob => some (opI rng2 [oa, ob])
        | _, _ => none)
      else if x == ("zip" : Str) && (memS x T.free && (isGlob sc x && (plainE a && (plainE b && isTup tg)))) then (match compE n sc a, compE n sc b with
        | some oa, some ob => some (opI zipD [.ex oa.1, .ex ob.1])
        | _, _ => none)
      else (compE n sc e).map fun m => seqM m.1
    | .Call (.Name x _) [a, b, c] [] _ => if x == ("range" : Str) && (memS x T.free && (isGlob sc x && (plainE a && (plainE b && plainE c)))) then (match opdOf N (compE n) sc a, opdOf N (compE n) sc b, opdOf N (compE n) sc c with
        | some oa, some ob, some oc => some (opI rng3 [oa, ob, oc])
        | _, _, _ => none)
      else (compE n sc e).map fun m => seqM m.1
    | e => (compE n sc e).map fun m => seqM m.1
end
def swK (sc : Scope) : ScopeKind := if sc.kind.isAnnotationScope then .function else sc.kind
def swBad (ts vs : List Expr) (sc : Scope) : Bool := !(ts.length == 2 || ts.length == 3) || vs.length != ts.length || swK sc != .function
def swStar (vs : List Expr) : Bool := vs.any fun | .Starred .. => true | _ => false
def swNm (ts : List Expr) (sc : Scope) : List Str :=
  let line := (ts.head?.map (·.pos.line)).getD 0
  ts.filterMap fun
    | .Name id pos => if sc.names.lookup id == some .local && pos.line == line then some id else none
    | _ => none
def swapQ (ts vs : List Expr) (sc : Scope) : Option (Option (List Str)) :=
  if swBad ts vs sc = true then some none
  else if swStar vs = true then some none
  else if ((swNm ts sc).length != ts.length || (swNm ts sc).eraseDups.length != (swNm ts sc).length) = true then some none
  else if vs.all (foldedForSure 8) = true then some none
  else if vs.all (constantsAlone 8) = true then none
  else some (some (swNm ts sc))
def lcSwap (sc : Scope) (x : Str) (p' : Pos) (e : Expr) : Bool := match e with
  | .ListComp _ [⟨_, _, _, 0⟩] scope lpos => (match sc.kind with | .function => true | _ => false) && ((match sc.names.lookup x with | some .local => true | _ => false) && (p'.line == lpos.line && !(scope.names.any fun (n, k) => n == x && (k == .local || k == .cell))))
  | _ => false
def isCell (sc : Scope) (x : Str) : Bool := match sc.names.lookup x with
  | some .cell => true
  | _ => false
def blkS : List S → S
  | [] => nxS
  | [s] => s
  | s :: r => seqS s (blkS r)
def compR (sc : Scope) (n : Nat) (e : Expr) : Option S := match e with
  | .Name x _ => (match slotIx N sc x with
    | some i => some (retV i)
    | none => (compE T N n sc e).map fun r => retS r.1 r.2)
  | _ => (compE T N n sc e).map fun r => retS r.1 r.2
/-- g(nm.thing, ..) -/
def thOf (sc : Scope) (nm : Str) (e : Expr) : Option (Exn → M D) := match e with
  | .Call (.Name g _) [.Attribute (.Name n' _) f _, .Constant (.str y) _ _] [] _ => if n' == nm && (f == ("thing" : Str) && isGlob sc g) then (match fnOf T.heat g with
    | some fe => if fe.ar = 2 then some (thM fe.sem y) else none
    | none => none) else none
  | _ => none
def suOf (sc : Scope) (n : Nat) (nm : Str) (e : Expr) : Option ((Exn → M D) × Bool) := match e with
  | .BoolOp .And [a, b] _ => (match compE T.heat N n sc a, thOf T sc nm b with
    | some r, some t => some (fun x => andV r.1 (t x), false)
    | _, _ => none)
  | e => (thOf T sc nm e).map fun t => (t, true)
def isLoc (sc : Scope) (x : Str) : Bool := match sc.names.lookup x with
  | some .local => true
  | _ => false
def stCalm (st : Stmt) : Bool := match st with
  | .For .. => true
  | .Raise .. => true
  | .Try .. => true
  | .Assign [.Tuple ..] _ _ => true
  | .Assign [.Name _ _] e _ => isComp e
  | _ => false
def compS (sc : Scope) : Nat → Stmt → Option S
  | 0, _ => none
  | n + 1, st => if T.hot && stCalm st then some badS else match st with
    | .Return none _ => some retNS
    | .Return (some e) _ => (match e with
      | .Name x _ => (match slotIx N sc x with
        | some i => some (retV i)
        | none => (compE T N n sc e).map fun r => retS r.1 r.2)
      | .IfExp c a b _ => if isLst a && isNm b || isNm a && isLst b then (match compT T N n sc c, compR T N sc n a, compR T N sc n b with
        | some t, some s1, some s2 => some (ifS t s1 s2)
        | _, _, _ => none) else (compE T N n sc e).map fun r => retS r.1 r.2
      | _ => (compE T N n sc e).map fun r => retS r.1 r.2)
    | .Assign [.Name x p'] e _ => (match locIx N sc x, compE T N n sc e with
      | some i, some r => if isComp e && (!lcSwap sc x p' e && !isCell sc x) then none else some (asgS i r.1 r.2)
      | _, _ => none)
    | .Assign [.Tuple [.Name x px, .Name y py] kt pt] (.Tuple [a, b] k2 pt2) _ => (match swapQ [.Name x px, .Name y py] [a, b] sc with
      | some (some _) => if plainE a && plainE b then (match ixOf x N 0, ixOf y N 0, compE T N n sc a, compE T N n sc b with
        | some i, some j, some p, some q => if i = j then none else some (parS [⟨i, p.1, p.2⟩, ⟨j, q.1, q.2⟩])
        | _, _, _, _ => none) else none
      | some none => (match compTg N sc n (.Tuple [.Name x px, .Name y py] kt pt), compE T N n sc (.Tuple [a, b] k2 pt2) with
        | some t, some r => some (untS t r.1)
        | _, _ => none)
      | none => none)
    | .Assign [.Tuple [.Name x px, .Name y py, .Name z pz] kt pt] (.Tuple [a, b, c] k2 pt2) _ => (match swapQ [.Name x px, .Name y py, .Name z pz] [a, b, c] sc with
      | some (some _) => if plainE a && (plainE b && plainE c) then (match ixOf x N 0, ixOf y N 0, ixOf z N 0, compE T N n sc a, compE T N n sc b, compE T N n sc c with
        | some i, some j, some l, some p, some q, some r => if i = j ∨ i = l ∨ j = l then none else some (parS [⟨i, p.1, p.2⟩, ⟨j, q.1, q.2⟩, ⟨l, r.1, r.2⟩])
        | _, _, _, _, _, _ => none) else none
      | some none => (match compTg N sc n (.Tuple [.Name x px, .Name y py, .Name z pz] kt pt), compE T N n sc (.Tuple [a, b, c] k2 pt2) with
        | some t, some r => some (untS t r.1)
        | _, _ => none)
      | none => none)
    | .Assign [.Tuple es kt pt] e _ => if isTup e then none else (match compTg N sc n (.Tuple es kt pt), compE T N n sc e with
      | some t, some r => some (untS t r.1)
      | _, _ => none)
    | .Assign [.Subscript (.Name x _) ix _] e _ => if plainE ix then (match slotIx N sc x, opdOf N (compE T N n) sc ix, compE T N n sc e with
      | some j, some oi, some r => some (setPS j oi r.1)
      | _, _, _ => none) else none
    | .AugAssign (.Name x _) op e _ => (match locIx N sc x, augD op, opdOf N (compE T N n) sc e with
      | some i, some f, some o => some (augS i f o)
      | _, _, _ => none)
    | .AugAssign (.Subscript (.Name x _) ix _) op e _ => if plainE ix then (match slotIx N sc x, augD op, compE T N n sc ix, compE T N n sc e with
      | some j, some f, some p, some q => some (augSubS j f p.1 q.1)
      | _, _, _, _ => none) else none
    | .Expr (.Constant (.str _) _ _) _ => some nxS
    | .Expr (.Call (.Attribute (.Name x _) m apos) [e] [] cpos) _ => if m == ("append" : Str) && (plainE e && apos.endLine == cpos.line) then (match slotIx N sc x, compE T N n sc e with
      | some i, some r => some (appS i r.1)
      | _, _ => none)
      else if m == ("extend" : Str) && (plainE e && apos.endLine == cpos.line) then (match slotIx N sc x, compE T N n sc e with
      | some i, some r => some (extS i r.1)
      | _, _ => none) else none
    | .If c a b _ => (match compT T N n sc c, mapO (compS sc n) a, mapO (compS sc n) b with
      | some t, some s1, some s2 => some (ifS t (blkS s1) (blkS s2))
      | _, _, _ => none)
    | .For tg iter body [] _ => if plainE iter then (match compI T N n sc tg iter, compTg N sc n tg, mapO (compS sc n) body with
      | some mi, some t, some s => some (forS mi t (blkS s))
      | _, _, _ => none) else none
    | .While c body [] _ => (match compT T N n sc c, mapO (compS sc n) body with
      | some t, some s => some (whileS t (blkS s))
      | _, _ => none)
    | .Pass _ => some nxS
    | .Raise (some (.Call (.Name x _) [.Constant (.str y) _ _] [] _)) none _ => if memS x T.excs && (isGlob sc x && decide ((reprText y).length ≤ 1000)) then some (raiS ⟨x, [(("thing" : Str), .str y)]⟩) else none
    | .Try body [.ExceptHandler (some (.Name x _)) (some nm) [.Return (some e) _] _] [] [] _ => if memS x T.excs && (isGlob sc x && isLoc sc nm) then (match mapO (compS sc n) body, slotIx N sc nm, suOf T N sc n nm e with
      | some b, some i, some su => some (tryS x (blkS b) i su.1 su.2)
      | _, _, _ => none) else none
    | .Break _ => some bkS
    | .Continue _ => some ctS
    | _ => none
end
end Dv
namespace Dv
open PySem L2 PyProof.Rows
theorem mapO_ok {α β : Type} {f : α → Option β} : ∀ {as : List α} {bs : List β}, mapO f as = some bs → as.length = bs.length ∧ ∀ (P : α → β → Prop), (∀ a b, a ∈ as → f a = some b → P a b) → PySem.Paired P as bs
  | [], bs, h => by
    cases h
    exact ⟨rfl, fun _ _ => .nil⟩
  | a :: as, bs, h => by
    simp only [mapO] at h
    cases e1 : f a with
    | none => rw [e1] at h; cases h
    | some b =>
      rw [e1] at h
      cases e2 : mapO f as with
      | none => rw [e2] at h; cases h
      | some bs' =>
        rw [e2] at h
        cases h
        obtain ⟨l, p⟩ := mapO_ok e2
        exact ⟨by rw [List.length_cons, List.length_cons, l], fun P hp => .cons (hp a b List.mem_cons_self e1) (p P fun a b m e => hp a b (List.mem_cons_of_mem _ m) e)⟩
theorem ixOf_ok {x : Str} : ∀ {N : List Str} {i j : Nat}, ixOf x N i = some j → i ≤ j ∧ N[j - i]? = some x
  | [], i, j, h => by cases h
  | y :: ys, i, j, h => by
    simp only [ixOf] at h
    split at h
    · rename_i e
      cases h
      have e' : x = y := eq_of_beq e
      subst e'
      exact ⟨Nat.le_refl _, by rw [Nat.sub_self]; rfl⟩
    · obtain ⟨a, b⟩ := ixOf_ok h
      refine ⟨by omega, ?_⟩
      rw [show j - i = (j - (i + 1)) + 1 by omega]
      exact b
theorem ix0 {x : Str} {N : List Str} {j : Nat} (h : ixOf x N 0 = some j) : N[j]? = some x := (ixOf_ok h).2
theorem lookS_ok {α : Type} {x : Str} {a : α} : ∀ {l : List (Str × α)}, lookS x l = some a → (x, a) ∈ l
  | [], h => by cases h
  | (y, b) :: r, h => by
    simp only [lookS] at h
    split at h
    · rename_i e
      cases h
      have e' : x = y := eq_of_beq e
      subst e'
      exact List.mem_cons_self
    · exact List.mem_cons_of_mem _ (lookS_ok h)
theorem memS_ok {x : Str} {l : List Str} (h : memS x l = true) : x ∈ l := by
  obtain ⟨y, hy, e⟩ := List.any_eq_true.mp h
  have e' : y = x := eq_of_beq e
  exact e' ▸ hy
theorem okName_ok {x : Str} (h : okName x = true) : (x == ("__debug__" : Str)) = false ∧ (x == ("__classdict__" : Str)) = false ∧ x ≠ "__name__" := by
  unfold okName at h
  simp only [Bool.and_eq_true, Bool.not_eq_true'] at h
  exact ⟨h.1.1, h.1.2, fun e => by rw [e] at h; simp at h⟩
section
variable {F : Fx} {T : Tab} {N : List Str} {sc : Scope} {k : Nat} {X : Cx} {e a b tg : Expr} {pos : Pos}
theorem slot_ok {x : Str} {i : Nat} (o : Xo F T N sc k X) (h : slotIx N sc x = some i) : PE X (.Name x pos) (tVar i) := by
  unfold slotIx at h
  split at h
  · rename_i hk
    obtain ⟨h1, h2, _⟩ := okName_ok hk
    split at h
    · rename_i hl
      exact pe_var (by rw [o.hN]; exact ix0 h) (.inl (by rw [o.hs]; exact hl)) h1 h2
    · rename_i hl
      exact pe_var (by rw [o.hN]; exact ix0 h) (.inr (.inl (by rw [o.hs]; exact hl))) h1 h2
    · rename_i hl
      exact pe_var (by rw [o.hN]; exact ix0 h) (.inr (.inr (by rw [o.hs]; exact hl))) h1 h2
    · cases h
  · cases h
theorem glob_ok {x : Str} (o : Xo F T N sc k X) (h : isGlob sc x = true) : Gl X x ∧ (x == ("__debug__" : Str)) = false ∧ x ≠ "__name__" := by
  unfold isGlob at h
  rw [Bool.and_eq_true] at h
  obtain ⟨h1, _, h3⟩ := okName_ok h.1
  refine ⟨?_, h1, h3⟩
  have h2 := h.2
  split at h2
  · rename_i hl
    show X.env.scope.names.lookup x = _
    rw [o.hs]
    exact hl
  · cases h2
theorem opd_ok {ce : Scope → Expr → Option (M D × Bool)} {od : Opd} (o : Xo F T N sc k X) (ih : ∀ m fr, ce sc e = some (m, fr) → PE X e (rdE F m fr)) (h : opdOf N ce sc e = some od) : ∃ t, Op1 F X e od t := by
  have go : ∀ {od}, (ce sc e).map (fun r => Opd.ex r.1) = some od → ∃ t, Op1 F X e od t := fun {od} h => by
    cases q : ce sc e with
    | none => rw [q] at h; cases h
    | some r =>
      rw [q] at h
      cases h
      exact ⟨_, .ex (ih r.1 r.2 q)⟩
  unfold opdOf at h
  split at h
  · split at h
    · rename_i i hs
      cases h
      exact ⟨_, .va (slot_ok o hs)⟩
    · exact go h
  · exact go h
theorem ops_of {os : List Opd} {es : List Expr} (h : PySem.Paired (fun e od => ∃ t, Op1 F X e od t) es os) : ∃ ts, Ops F X es os ts := by
  induction h with
  | nil => exact ⟨[], .nil⟩
  | cons p _ ih =>
    obtain ⟨t, p⟩ := p
    obtain ⟨ts, ih⟩ := ih
    exact ⟨t :: ts, .cons p ih⟩
theorem ops_ex {ms : List (M D × Bool)} {es : List Expr} (h : PySem.Paired (fun e (m : M D × Bool) => PE X e (rdE F m.1 m.2)) es ms) : ∃ ts, Ops F X es ((ms.map (·.1)).map Opd.ex) ts := by
  induction h with
  | nil => exact ⟨[], .nil⟩
  | cons p _ ih =>
    obtain ⟨ts, ih⟩ := ih
    exact ⟨_ :: ts, .cons (.ex p) ih⟩
theorem const_ok {c : Const} {j : Nat} {d : D} (h : constD c = some d) : PE X (.Constant c j pos) (rdE F (retM d) false) := by
  unfold constD at h
  split at h
  · cases h; exact e_const pe_non fun _ => .non
  · cases h; exact e_const pe_bl fun _ => .bl _
  · cases h; exact e_const pe_int fun _ => .int _
  · cases h; exact e_const pe_str fun _ => .str _
  · cases h
theorem boolV_ok {op : BoolOp} (hK : X.K = F.K) : ∀ {vs : List Expr} {ms : List (M D × Bool)} {m : M D} {fr : Bool}, PySem.Paired (fun e (m : M D × Bool) => PE X e (rdE F m.1 m.2)) vs ms → boolV op ms = some (m, fr) → PE X (.BoolOp op vs pos) (rdE F m fr)
  | _, _, m, fr, .nil, h => by cases h
  | _, _, m, fr, .cons p .nil, h => by
    cases h
    exact e_one p
  | _ :: _ :: _, _ :: m1 :: ms, m, fr, .cons p (.cons q r), h => by
    simp only [boolV] at h
    cases e1 : boolV op (m1 :: ms) with
    | none => rw [e1] at h; cases h
    | some r2 =>
      rw [e1] at h
      have ih := boolV_ok hK (.cons q r) e1
      cases op with
      | And => cases h; exact e_and hK p ih
      | Or => cases h; exact e_or hK p ih
theorem boolT_ok {op : BoolOp} : ∀ {vs : List Expr} {ms : List (M Bool)} {m : M Bool}, PySem.Paired (fun e (m : M Bool) => PT X e (rdT F m)) vs ms → boolT op ms = some m → PW X (.BoolOp op vs pos) (rdT F m)
  | _, _, m, .nil, h => by cases h
  | _, _, m, .cons p .nil, h => by
    cases h
    cases op with
    | And => exact w_and1 p
    | Or => exact w_or1 p
  | _ :: _ :: _, _ :: m1 :: ms, m, .cons p (.cons q r), h => by
    simp only [boolT] at h
    cases e1 : boolT op (m1 :: ms) with
    | none => rw [e1] at h; cases h
    | some r2 =>
      rw [e1] at h
      have ih := boolT_ok (.cons q r) e1
      cases op with
      | And => cases h; exact w_and p ih
      | Or => cases h; exact w_or p ih
theorem cb_ok {x : Str} {f : List D → Option D} {p : Pos} {es : List Expr} {os : List Opd} {ts : List TE} (o : Xo F T N sc k X) (hh : T.hot = false ∨ memS x quietCb = true) (hm : (x, f) ∈ cbTab) (hf : x ∈ T.free) (gl : Gl X x) (h : Ops F X es os ts) (pl : es.all plainE = true) (ne : es ≠ []) (hn : x ≠ "__name__") (hd : (x == ("__debug__" : Str)) = false) :
    PE X (.Call (.Name x p) es [] pos) (rdE F (opM f os) true) := by
  have hK := o.hK
  simp only [cbTab, List.mem_cons, List.not_mem_nil, or_false, Prod.mk.injEq] at hm
  rcases hm with ⟨rfl, rfl⟩ | ⟨rfl, rfl⟩ | ⟨rfl, rfl⟩ | ⟨rfl, rfl⟩ | ⟨rfl, rfl⟩ | ⟨rfl, rfl⟩ | ⟨rfl, rfl⟩ | ⟨rfl, rfl⟩ | ⟨rfl, rfl⟩ | ⟨rfl, rfl⟩ | ⟨rfl, rfl⟩
  · obtain ⟨r, h1, h2⟩ := cb_len (F := F) hK; exact e_cb o hf (by decide +kernel) gl h1 h2 h pl ne hn hd
  · obtain ⟨r, h1, h2⟩ := cb_abs (F := F) (X := X); exact e_cb o hf (by decide +kernel) gl h1 h2 h pl ne hn hd
  · obtain ⟨r, h1, h2⟩ := cb_sum (F := F) hK (o.calm (hh.resolve_right (by decide +kernel))); exact e_cb o hf (by decide +kernel) gl h1 h2 h pl ne hn hd
  · obtain ⟨r, h1, h2⟩ := cb_max (F := F) (o.calm (hh.resolve_right (by decide +kernel))); exact e_cb o hf (by decide +kernel) gl h1 h2 h pl ne hn hd
  · obtain ⟨r, h1, h2⟩ := cb_min (F := F) (o.calm (hh.resolve_right (by decide +kernel))); exact e_cb o hf (by decide +kernel) gl h1 h2 h pl ne hn hd
  · obtain ⟨r, h1, h2⟩ := cb_sorted (F := F) (X := X) o.hK; exact e_cb o hf (by decide +kernel) gl h1 h2 h pl ne hn hd
  · obtain ⟨r, h1, h2⟩ := cb_any (F := F) hK (o.calm (hh.resolve_right (by decide +kernel))); exact e_cb o hf (by decide +kernel) gl h1 h2 h pl ne hn hd
  · obtain ⟨r, h1, h2⟩ := cb_all (F := F) (o.calm (hh.resolve_right (by decide +kernel))); exact e_cb o hf (by decide +kernel) gl h1 h2 h pl ne hn hd
  · obtain ⟨r, h1, h2⟩ := cb_int (F := F) (X := X); exact e_ct o hf (by decide +kernel) gl h1 h2 h pl ne hn hd
  · obtain ⟨r, h1, h2⟩ := cb_tuple (F := F) hK; exact e_ct o hf (by decide +kernel) gl h1 h2 h pl ne hn hd
  · obtain ⟨r, h1, h2⟩ := cb_list (F := F) hK; exact e_ct o hf (by decide +kernel) gl h1 h2 h pl ne hn hd
theorem isiTy_ok {x : Str} {ty : String} (h : isiTy x = some ty) : bootBuiltins x = some (.type ty) ∧ ty ∈ isiTypes := by
  have hm := lookS_ok h
  simp only [List.mem_cons, List.not_mem_nil, or_false, Prod.mk.injEq] at hm
  rcases hm with ⟨rfl, rfl⟩ | ⟨rfl, rfl⟩ | ⟨rfl, rfl⟩ | ⟨rfl, rfl⟩ | ⟨rfl, rfl⟩ | ⟨rfl, rfl⟩ <;> exact ⟨by decide +kernel, by simp [isiTypes]⟩
theorem e_join {s : Str} {e : Expr} {od : Opd} {t : TE} {p : Pos} {j : Nat} {apos cpos : Pos} (hK : X.K = F.K) (h : Op1 F X e od t) (pl : plainE e = true) (hl : (apos.endLine == cpos.line) = true) :
    PE X (.Call (.Attribute (.Constant (.str s) j p) "join" apos) [e] [] cpos) (rdE F (opM (f1 (joinD (.str s))) [od]) true) := by
  refine peI (pe_join pe_str h.pe (star_of pl _ _) rfl hl) fun σ H Q q => ?_
  refine ⟨⟨s, rfl⟩, ?_⟩
  show tList [t] σ H (fun vs H1 => match vs with | [y] => ∃ a p, ∃ ys : List Str, V.str s = .str a ∧ [y] = [.ref p] ∧ (SqL X.K H1 p (ys.map V.str) ∨ SqT X.K H1 p (ys.map V.str)) ∧ (ys.map (·.length)).sum + ys.length * a.length ≤ 16777216 ∧ Q (.str (Txt.join a ys)) H1 | _ => False)
  refine opN_rd (r := fun vs H1 Q => match vs with | [y] => ∃ a p, ∃ ys : List Str, V.str s = .str a ∧ [y] = [.ref p] ∧ (SqL X.K H1 p (ys.map V.str) ∨ SqT X.K H1 p (ys.map V.str)) ∧ (ys.map (·.length)).sum + ys.length * a.length ≤ 16777216 ∧ Q (.str (Txt.join a ys)) H1 | _ => False) (.cons h .nil) ?_ q
  refine one_op (r := fun y H1 Q => ∃ a p, ∃ ys : List Str, V.str s = .str a ∧ [y] = [.ref p] ∧ (SqL X.K H1 p (ys.map V.str) ∨ SqT X.K H1 p (ys.map V.str)) ∧ (ys.map (·.length)).sum + ys.length * a.length ≤ 16777216 ∧ Q (.str (Txt.join a ys)) H1) ?_
  intro G H σ ρ O x a d Q E va e w
  have go : ∀ {xs : List D}, joinB s xs = some d → ∃ ys, xs = ys.map D.str ∧ (ys.map (·.length)).sum + ys.length * s.length ≤ 16777216 ∧ d = .str (Txt.join s ys) := fun {xs} e => by
    unfold joinB at e
    cases e1 : strsOf xs with
    | none => rw [e1] at e; cases e
    | some ys =>
      rw [e1] at e
      replace e : (if (ys.map (·.length)).sum + ys.length * s.length ≤ 16777216 then some (D.str (Txt.join s ys)) else none) = some d := e
      split at e
      · rename_i hz
        cases e
        exact ⟨ys, strsOf_eq e1, hz, rfl⟩
      · cases e
  unfold joinD at e
  split at e
  · rename_i s' xs h1
    cases h1
    obtain ⟨ys, rfl, hz, rfl⟩ := go e
    obtain ⟨p, vs, rfl, h1, h2⟩ := va.lst' E.gh
    have e3 := rp_strs h2
    subst e3
    exact ⟨s, p, ys, rfl, rfl, .inl (.inl (.inl h1)), hz, w _ _ _ _ E strf rv_str⟩
  · rename_i s' xs h1
    cases h1
    obtain ⟨ys, rfl, hz, rfl⟩ := go e
    obtain ⟨p, vs, rfl, h1, h2⟩ := va.tup'
    have e3 := rp_strs h2
    subst e3
    exact ⟨s, p, ys, rfl, rfl, .inr (by rw [hK]; exact sqT_up E.gh h1), hz, w _ _ _ _ E strf rv_str⟩
  · cases e
theorem tg_ok (hN : X.N = N) (nd : N.Nodup) (hc : X.calm = true) (hloc : ∀ x, (sc.names.lookup x = some .local ∨ sc.names.lookup x = some .cell) → Loc X.env.scope x ∧ (X.fn x = true ∨ X.env.scope.names.lookup x = some .local)) :
    ∀ (n : Nat) (e : Expr) (t : Tg), compTg N sc n e = some t → PG X e (gOf X.K t)
  | 0, e, t, h => by cases h
  | n + 1, e, t, h => by
    simp only [compTg] at h
    split at h
    · rename_i x p
      cases e1 : locIx N sc x with
      | none => rw [e1] at h; cases h
      | some i =>
        rw [e1] at h
        cases h
        unfold locIx at e1
        split at e1
        · rename_i hl
          obtain ⟨h1, h2⟩ := hloc x (.inl hl)
          exact pg_nm (by rw [hN]; exact nd) (by rw [hN]; exact ix0 e1) h1 h2
        · rename_i hl
          obtain ⟨h1, h2⟩ := hloc x (.inr hl)
          exact pg_nm (by rw [hN]; exact nd) (by rw [hN]; exact ix0 e1) h1 h2
        · cases e1
    · rename_i es x1 p
      split at h
      · rename_i hp
        cases e1 : mapO (compTg N sc n) es with
        | none => rw [e1] at h; cases h
        | some ts =>
          rw [e1] at h
          cases h
          obtain ⟨hl, pr⟩ := mapO_ok e1
          replace pr := pr (fun e t => PG X e (gOf X.K t)) fun e t _ he => tg_ok hN nd hc hloc n e t he
          refine pg_tp hc ?_ hp hl
          clear e1 hl
          induction pr with
          | nil => exact pgs_nil
          | cons p1 _ ih =>
            rw [List.all_cons, Bool.and_eq_true] at hp
            exact pgs_c p1 (ih hp.2) hp.1
      · cases h
    · cases h
end
end Dv
/-! quiet tests: what stands in all(..) -/
namespace Dv
open PySem PySem.Spec L2 PyProof.Rows
section
variable {prog : Program} {w : World} {cenv : Env} {S : Shared → Prop}
def Qe (prog : Program) (w : World) (cenv : Env) (S : Shared → Prop) (e : Expr) (d : D) : Prop := ∀ (A : Around) (E : Value → Shared → Prop) (s : Shared), S s → wpAny (model prog w) A (eval e cenv) (fun u s' => QR u d ∧ Keeps s s') E s
theorem kt (s : Shared) (k : Nat) : Keeps s { s with toks := k } := GxR.keeps_tok s k
theorem qe_bin {op : Operator} {f : D → D → Option D} {a b : Expr} {pos : Pos} {x y z : D} (hS : ∀ s s', S s → Keeps s s' → S s') (ho : QOp (binaryOp op) f) (ha : Qe prog w cenv S a x) (hb : Qe prog w cenv S b y) (e : f x y = some z) : Qe prog w cenv S (.BinOp a op b pos) z := fun A E s h => by
  refine wpAny_BinOp (wpAny_mono (ha A E s h) (fun u s1 h1 => wpAny_mono (hb A E s1 (hS _ _ h h1.2)) (fun v s2 h2 => ?_) fun _ _ q => q) fun _ _ q => q)
  exact ho prog w A E s2 u v x y z _ h1.1 h2.1 e fun r k hr => ⟨hr, keeps_trans (keeps_trans h1.2 h2.2) (kt _ _)⟩
theorem qe_cmp {op : CmpOp} {f : D → D → Option D} {a b : Expr} {pos : Pos} {x y z : D} (hS : ∀ s s', S s → Keeps s s' → S s') (ho : QOp (compareOp op) f) (hm : behindInMarks op b = false) (ha : Qe prog w cenv S a x) (hb : Qe prog w cenv S b y) (e : f x y = some z) : Qe prog w cenv S (.Compare a [op] [b] pos) z := fun A E s h => by
  refine wpAny_Compare1 (wpAny_mono (ha A E s h) (fun u s1 h1 => wpAny_mono (hb A E s1 (hS _ _ h h1.2)) (fun v s2 h2 => ?_) fun _ _ q => q) fun _ _ q => q) hm
  exact ho prog w A E s2 u v x y z _ h1.1 h2.1 e fun r k hr => ⟨hr, keeps_trans (keeps_trans h1.2 h2.2) (kt _ _)⟩
theorem qe_neg {a : Expr} {pos : Pos} {x z : D} (ha : Qe prog w cenv S a x) (e : qNeg x = some z) : Qe prog w cenv S (.UnaryOp .USub a pos) z := fun A E s h => by
  refine wpAny_UnaryOp (wpAny_mono (ha A E s h) (fun u s1 h1 => ?_) fun _ _ q => q)
  cases x <;> try cases e
  obtain ⟨t, rfl⟩ := h1.1
  exact neg_int ⟨⟨_, rfl⟩, keeps_trans h1.2 (kt _ _)⟩
theorem qe_chain {op op' : CmpOp} {f g : D → D → Option D} {a b c : Expr} {pos : Pos} {x y z r : D} (hS : ∀ s s', S s → Keeps s s' → S s') (ho : QOp (compareOp op) f) (ho' : QOp (compareOp op') g) (hm : lastMarks [op, op'] [b, c] = false) (ha : Qe prog w cenv S a x) (hb : Qe prog w cenv S b y)
    (e : (f x y = some (.bl true) ∧ Qe prog w cenv S c z ∧ g y z = some r) ∨ (f x y = some (.bl false) ∧ r = .bl false)) : Qe prog w cenv S (.Compare a [op, op'] [b, c] pos) r := fun A E s h => by
  refine Compare_chain (wpAny_mono (ha A E s h) (fun u s1 h1 => chain_link (wpAny_mono (hb A E s1 (hS _ _ h h1.2)) (fun v s2 h2 => ?_) fun _ _ q => q)) fun _ _ q => q) hm
  rcases e with ⟨e1, hc, e2⟩ | ⟨e1, rfl⟩
  · refine ho prog w A E s2 u v x y _ _ h1.1 h2.1 e1 fun q k hq => ?_
    have hq' : q = .bool true := hq
    subst hq'
    have k2 := keeps_trans (keeps_trans h1.2 h2.2) (kt s2 k)
    refine wpAny_truthy_bool (ite_tt (chain_last (wpAny_mono (hc A E _ (hS _ _ h k2)) (fun v3 s3 h3 => ?_) fun _ _ q => q)))
    exact ho' prog w A E s3 v v3 y z r _ h2.1 h3.1 e2 fun q k hq => ⟨hq, keeps_trans (keeps_trans k2 h3.2) (kt _ _)⟩
  · refine ho prog w A E s2 u v x y _ _ h1.1 h2.1 e1 fun q k hq => ?_
    have hq' : q = .bool false := hq
    subst hq'
    exact wpAny_truthy_bool (ite_ff ⟨rfl, keeps_trans (keeps_trans h1.2 h2.2) (kt s2 k)⟩)
theorem qe_int {i : Int} {k : Nat} {pos : Pos} : Qe prog w cenv S (.Constant (.int i) k pos) (.int i) := fun A E s _ => by
  intro Γ p hΓ
  exact ⟨⟨_, rfl⟩, kt s _⟩
/-- what the names of a test mean -/
structure QNm (prog : Program) (w : World) (lf : Bool) (cenv : Env) (S : Shared → Prop) (x : Str) (N : List Str) (sc scope : Scope) (d : D) (ρ : En) : Prop where
  kind : cenv.scope.kind = .function
  stab : ∀ s s', S s → Keeps s s' → S s'
  xl : cenv.kindOf x = some .local
  xv : ∀ s, S s → ∃ m u, s.heap.Ns cenv.locals m ∧ m x = some u ∧ QR u d
  ln : lf = true → scope.names.lookup ("len" : Str) = some .globalImplicit → ∀ (p p2 pos : Pos) (r : D), okName x = true → qLen d = some r → Qe prog w cenv S (.Call (.Name "len" p) [.Name x p2] [] pos) r
  fr : ∀ y i dy, scope.names.lookup y = some .free → slotIx N sc y = some i → slD ρ[i]? = some dy → cenv.kindOf y = some .free ∧ ∃ c u, cenv.cells.lookup y = some c ∧ QR u dy ∧ ∀ s, S s → s.heap.IsCell c (some u)
theorem compQ_ok {lf : Bool} {x : Str} {N : List Str} {sc scope : Scope} {d : D} {ρ : En} (nm : QNm prog w lf cenv S x N sc scope d ρ) : ∀ (n : Nat) (e : Expr) (q : QF) (r : D), compQ lf x N sc scope n e = some q → q d ρ = some r → Qe prog w cenv S e r
  | 0, _, _, _, h, _ => by simp [compQ] at h
  | n + 1, e, q, r, h, hr => by
    have ih := compQ_ok nm n
    simp only [compQ] at h
    split at h
    · cases h
      cases hr
      exact qe_int
    · rename_i y p
      split at h
      rotate_left
      · cases h
      rename_i hk
      obtain ⟨h1, h2, _⟩ := okName_ok hk
      split at h
      · rename_i hy
        cases h
        have ey := eq_of_beq hy
        subst ey
        cases hr
        intro A E s hs
        obtain ⟨m, u, hn, hm, hu⟩ := nm.xv s hs
        exact wpAny_Name (wpAny_loadName_local nm.kind nm.xl hn hm ⟨hu, GxR.keeps_refl s⟩) h1
      · split at h
        rotate_left
        · cases h
        rename_i hf
        have hf' := eq_of_beq hf
        cases e1 : slotIx N sc y with
        | none => rw [e1] at h; cases h
        | some i =>
          rw [e1] at h
          cases h
          obtain ⟨hkd, c, u, hc, hu, hcell⟩ := nm.fr y i r hf' e1 hr
          exact fun A E s hs => wpAny_Name (wpAny_loadName_free nm.kind hkd hc (hcell s hs) ⟨hu, GxR.keeps_refl s⟩ h2) h1
    · split at h
      · rename_i f p q' e1 e2 e3
        cases h
        unfold q2 at hr
        split at hr
        · rename_i x y z1 z2
          exact qe_bin nm.stab (qBin_ok e1) (ih _ _ _ e2 z1) (ih _ _ _ e3 z2) hr
        · cases hr
      · cases h
    · rename_i a p
      cases e1 : compQ lf x N sc scope n a with
      | none => rw [e1] at h; cases h
      | some p' =>
        rw [e1] at h
        cases h
        unfold Dv.q1 at hr
        cases e2 : p' d ρ with
        | none => rw [e2] at hr; cases hr
        | some z =>
          rw [e2] at hr
          exact qe_neg (ih _ _ _ e1 e2) hr
    · split at h
      · rename_i f p q' e1 e2 e3
        cases h
        unfold q2 at hr
        split at hr
        · rename_i x y z1 z2
          exact qe_cmp nm.stab (qCmp_ok e1) (qCmp_behind e1 _) (ih _ _ _ e2 z1) (ih _ _ _ e3 z2) hr
        · cases hr
      · cases h
    · rename_i a op op' b c p0
      split at h
      · rename_i f g p q' r' e1 e1' e2 e3 e4
        cases h
        unfold qch at hr
        have hm : lastMarks [op, op'] [b, c] = false := by
          first
            | exact qCmp_behind e1' _
            | (simp only [lastMarks]; exact qCmp_behind e1' _)
        split at hr
        · rename_i x y z1 z2
          split at hr
          · rename_i z3
            split at hr
            · rename_i z z4
              exact qe_chain nm.stab (qCmp_ok e1) (qCmp_ok e1') hm (ih _ _ _ e2 z1) (ih _ _ _ e3 z2) (.inl ⟨z3, ih _ _ _ e4 z4, hr⟩)
            · cases hr
          · rename_i z3
            cases hr
            exact qe_chain (z := .non) nm.stab (qCmp_ok e1) (qCmp_ok e1') hm (ih _ _ _ e2 z1) (ih _ _ _ e3 z2) (.inr ⟨z3, rfl⟩)
          · cases hr
        · cases hr
      · cases h
    · split at h
      · rename_i f p y p2 hc
        cases h
        simp only [Bool.and_eq_true] at hc
        obtain ⟨c1, c2, c3, c4, c5⟩ := hc
        have e1 := eq_of_beq c2
        have e2 := eq_of_beq c3
        subst e1 e2
        unfold Dv.q1 at hr
        exact nm.ln c1 (eq_of_beq c5) _ _ _ _ c4 hr
      · cases h
    · cases h
end
end Dv
/-! all(test for x in e) as read -/
namespace Dv
open PySem PySem.Spec L2 PyProof.Rows
section
variable {F : Fx} {T : Tab} {N : List Str} {sc : Scope} {k : Nat} {X : Cx}
theorem Er.extH {G H H2 : Hp} {σ : L2.St} {ρ : En} {O : Nat → List Addr} (E : Er F G H σ ρ O) (e : Ext H H2) : Er F G H2 σ ρ O :=
  ⟨E.len, E.g0, E.h0.trans e, fun a o q => e.obj a o (E.gh a o q) (E.tab.gt.no q), E.new, E.val, fun i d z => let ⟨p, o, h1, h2, h3, h4, h5, h6⟩ := E.own i d z; ⟨p, o, h1, h2, e.obj _ _ h3 h6.noT, h4, h5, h6⟩, E.dis,
    fun a o q => let ⟨h1, h2, h3⟩ := E.held a o q; ⟨e.obj _ _ h1 (E.tab.bt.no q), h2, h3⟩, E.tab.ext e⟩
theorem ext_tabbed {H H2 : Hp} {P : Addr} (t : TabT H P) (h : GxR.Tabbed P H H2) : Ext H H2 := by
  obtain ⟨ps, e, _⟩ := t
  refine ⟨fun b o q n => ?_, fun b qs q => ?_⟩
  · have ne : b ≠ P := fun z => by
      rw [z, e] at q
      exact n ps (Option.some.inj q).symm
    rw [h.2 b ne]
    exact q
  · by_cases hb : b = P
    · subst hb
      obtain ⟨ps', e', t'⟩ := h.1
      exact ⟨ps', e', fun _ => t'⟩
    · exact ⟨qs, by rw [h.2 b hb]; exact q, fun z => z⟩
theorem qr_of {K : Frg} {G H : Hp} {v : V} {u : Value} {d : D} (h : Vw K G H v d) (r : RelV v u) : QR u d := by
  cases d with
  | int i => rw [h.int'] at r; exact r
  | bl b =>
    rw [h.bl'] at r
    cases r
    rfl
  | _ => trivial
theorem lookup_mem {α : Type} [BEq α] : ∀ {l : List (Str × α)} {n : Str} {c : α}, l.lookup n = some c → (n, c) ∈ l := fun h => PySem.mem_of_lookup h
theorem genS_ok {scope : Scope} {x : Str} (ok : X.Ok) (hs : X.env.scope = sc) (h : genS sc scope x = true) : GxR.GenS X.env scope x := by
  unfold genS at h
  simp only [Bool.and_eq_true] at h
  obtain ⟨h1, h2, h3, h4, h5, h6⟩ := h
  refine ⟨?_, by simpa using h2, fun y hy z => ?_, by simpa using h4, by simpa using h5, fun y hy z => ?_⟩
  · cases e : scope.kind <;> rw [e] at h1 <;> first | rfl | cases h1
  · have := List.all_eq_true.mp h3 y hy
    rw [z] at this
    cases this
  · have := List.all_eq_true.mp h6 y hy
    rw [z] at this
    refine ok.has y.1 ?_
    show X.env.scope.names.lookup y.1 = _ ∨ X.env.scope.names.lookup y.1 = _
    rw [hs]
    have t : (sc.names.lookup y.1 == some NameKind.cell || sc.names.lookup y.1 == some NameKind.free) = true := this
    rcases Bool.or_eq_true_iff.mp t with t | t
    · exact .inl (by simpa using t)
    · exact .inr (by simpa using t)
theorem boolsOf_at {q : QF} {ρ : En} : ∀ {ds : List D} {bs : List Bool}, boolsOf q ρ ds = some bs → bs.length = ds.length ∧ ∀ (i : Nat) (b : Bool), bs[i]? = some b → ∃ d, ds[i]? = some d ∧ q d ρ = some (.bl b)
  | [], bs, h => by
    cases h
    exact ⟨rfl, fun i b e => by simp at e⟩
  | d :: ds, bs, h => by
    unfold boolsOf at h
    split at h
    · rename_i b bs' e1 e2
      cases h
      obtain ⟨l, f⟩ := boolsOf_at e2
      refine ⟨by rw [List.length_cons, List.length_cons, l], fun i c e => ?_⟩
      cases i with
      | zero =>
        simp at e
        subst e
        exact ⟨d, rfl, e1⟩
      | succ i =>
        obtain ⟨d', g1, g2⟩ := f i c (by simpa using e)
        exact ⟨d', by simpa using g1, g2⟩
    · cases h
theorem iterPl_fold {e : Expr} {env : Env} (h : iterPl e = true) : ∀ v, genFold e env v = pure v := by
  intro v
  cases e <;> first | rfl | cases h
theorem elt_ok {scope : Scope} {x : Str} {elt : Expr} {n : Nat} {q : QF} {G H : Hp} {σ : L2.St} {ρ : En} {O : Nat → List Addr} {pins : List (Addr × Obj)} {s1 : Shared} {u : Value} {d : D} {b : Bool} (o : Xo F T N sc k X) {lf : Bool} {c P : Addr} (hlf : lf = true → ("len" : Str) ∈ T.free) (TB : GxR.TabB X.base X.mg c P) (hP : GxR.TabG H P) (hq : compQ lf x N sc scope n elt = some q) (hg : genS sc scope x = true) (E : Er F G H σ ρ O) (I : Inv X pins σ H s1) (hu : QR u d) (hu2 : ∀ r, qLen d = some r → ∃ (a : Addr) (its : Array Value), u = .ref a ∧ s1.heap.IsTuple a its ∧ (its.size : Int) < 2 ^ 63 ∧ r = .int its.size) (e : q d ρ = some (.bl b)) : EltT X P scope x elt s1 u b := by
  intro cenv A' E' s₂ m₂ hsc hcl hn hm hcell hkeep hglob hblt
  have S := genS_ok I.ok o.hs hg
  let St : Shared → Prop := fun s₃ => (∃ m, s₃.heap.Ns cenv.locals m ∧ m x = some u) ∧ (∀ y c w, X.env.cells.lookup y = some c → s1.heap.IsCell c (some w) → s₃.heap.IsCell c (some w)) ∧ ∀ b o, b ≠ P → s1.heap.get? b = some o → s₃.heap.get? b = some o
  have kd : ∀ y, cenv.kindOf y = scope.names.lookup y := fun y => by
    show cenv.scope.names.lookup y = _
    rw [hsc]
  have nm : QNm X.prog X.w lf cenv St x N sc scope d ρ := by
    have kindF : cenv.scope.kind = .function := by rw [hsc]; exact S.kind
    have xloc : cenv.kindOf x = some .local := by rw [kd]; exact S.loc
    refine ⟨kindF, fun s s' h kp => ?_, xloc, fun s h => ?_, fun hl hgl p p2 pos r hx hr => ?_, fun y i dy hy hi hd => ?_⟩
    · obtain ⟨⟨m, a1, a2⟩, a3, a4⟩ := h
      obtain ⟨h', tk, rfl, kk⟩ := kp
      refine ⟨⟨m, a1.keeps kk, a2⟩, fun y c w hy hc => ?_, fun b o hb ho => kk _ _ (a4 b o hb ho)⟩
      obtain ⟨oc, b1, b2⟩ := a3 y c w hy hc
      exact ⟨oc, kk _ _ b1, b2⟩
    · obtain ⟨⟨m, a1, a2⟩, _⟩ := h
      exact ⟨m, u, a1, a2, hu⟩
    · obtain ⟨a, its, hua, ht, hfit, hre⟩ := hu2 r hr
      subst hua hre
      intro A E s hs
      obtain ⟨⟨m, a1, a2⟩, _, a4⟩ := hs
      obtain ⟨psP, hPs, _⟩ := hP
      have hPo : s1.heap.get? P = some { cls := .none, data := .fields psP } := I.hok P _ hPs
      have keepNs : ∀ (b : Addr) (mm : Str → Option Value), s1.heap.Ns b mm → s.heap.Ns b mm := fun b mm hN => by
        obtain ⟨o, es, ep, h1, h2, h3, h4⟩ := hN
        have hbP : b ≠ P := fun z => by
          rw [z, hPo] at h1
          cases h1
          cases h2
        exact ⟨o, es, ep, a4 b o hbP h1, h2, h3, h4⟩
      have haP : a ≠ P := fun z => by
        obtain ⟨o, h1, h2, _⟩ := ht
        rw [z, hPo] at h1
        cases h1
        cases h2
      have ht2 : s.heap.IsTuple a its := by
        obtain ⟨o, h1, h2⟩ := ht
        exact ⟨o, a4 a o haP h1, h2⟩
      obtain ⟨mb, b1, b2⟩ := I.mod.blt
      obtain ⟨n1, n2, _⟩ := okName_ok hx
      refine wpAny_Call_Name_kw (Calls.Name_function_global kindF (by rw [kd]; exact hgl) (Calls.loadGlobal_builtin (mg := X.mg) (by rw [hglob, I.ok.glob]; exact keepNs _ _ (I.mod.glob.keeps I.bk)) (o.free _ (hlf hl)) (by rw [hblt]; exact keepNs _ _ (b1.keeps I.bk)) ((b2 "len" (by decide)).trans PySem.boot_len) ?_) (by decide))
      refine PyProof.Rows.callWith_builtin1 ?_ rfl rfl
      refine Calls.spliced_cons (wpAny_Name (wpAny_loadName_local kindF xloc a1 a2 ?_) n1)
      refine Calls.spliced_nil ?_
      exact len_tuple ht2 hfit ⟨⟨_, rfl⟩, ⟨s.heap, _, rfl, fun _ _ e => e⟩⟩
    · refine ⟨by rw [kd]; exact hy, ?_⟩
      obtain ⟨v, hv, vw⟩ := E.slot hd
      have hNi : X.N[i]? = some y := by
        rw [o.hN]
        unfold slotIx at hi
        split at hi
        · split at hi <;> first | exact ix0 hi | cases hi
        · cases hi
      have hk : sc.names.lookup y = some .cell ∨ sc.names.lookup y = some .free := by
        unfold genS at hg
        simp only [Bool.and_eq_true] at hg
        have := List.all_eq_true.mp hg.2.2.2.2.2 (y, .free) (PySem.mem_of_lookup hy)
        have t : (sc.names.lookup y == some NameKind.cell || sc.names.lookup y == some NameKind.free) = true := this
        rcases Bool.or_eq_true_iff.mp t with t | t
        · exact .inl (by simpa using t)
        · exact .inr (by simpa using t)
      obtain ⟨m, _, hloc⟩ := I.loc
      obtain ⟨w, rw_, lk⟩ := hloc i y v hNi hv (by rw [o.hs]; exact hk.elim (fun z => .inr (.inl z)) (fun z => .inr (.inr z)))
      have hkd : X.env.kindOf y = some .cell ∨ X.env.kindOf y = some .free := by
        show X.env.scope.names.lookup y = _ ∨ X.env.scope.names.lookup y = _
        rw [o.hs]
        exact hk
      rcases lk with ⟨z, _⟩ | ⟨_, c, hc, hcw⟩
      · rcases hkd with z2 | z2 <;> rw [z] at z2 <;> cases z2
      · exact ⟨c, w, by rw [hcl]; exact NdefX.clo_has S.free (PySem.mem_of_lookup hy) hc, qr_of vw rw_, fun s hs => hs.2.1 y c w hc hcw⟩
  have := compQ_ok (prog := X.prog) (w := X.w) nm n elt q _ hq e A' E' s₂ ⟨⟨m₂, hn, hm⟩, hcell, hkeep⟩
  exact this
theorem gen_tr {scope : Scope} {x : Str} {elt : Expr} {n : Nat} {q : QF} {m : M D} {fr : Bool} {ag : List Bool → Bool} {c P : Addr} {σ : L2.St} {H : Hp} {Q : VK} (o : Xo F T N sc k X) (hh : T.hot = false) (TB : GxR.TabB X.base X.mg c P) (hP : P ∈ F.XR.tabs) (hq : compQ (memS ("len" : Str) T.free) x N sc scope n elt = some q) (hg : genS sc scope x = true) (qq : rdE F (genQ m q ag) true σ H Q) : tGen X P scope x elt ag (rdE F m fr) σ H Q := by
  obtain ⟨G, ρ, O, E, qq⟩ := qq
  refine ⟨G, ρ, O, E, ?_⟩
  unfold genQ at qq
  cases e1 : m ρ with
  | bad => rw [e1] at qq; exact qq
  | exc x ρ1 => rw [e1] at qq; exact qq
  | ok d ρ1 =>
    rw [e1] at qq
    intro v G1 H1 O1 E1 s1 r1
    simp only [Dv.R.bind_ok] at qq
    obtain ⟨G2, s2, E2, r2⟩ := E1.hold r1
    cases e2 : itD d with
    | none => rw [e2] at qq; exact qq.elim
    | some ds =>
      rw [e2] at qq
      simp only at qq
      cases e3 : boolsOf q ρ1 ds with
      | none => rw [e3] at qq; exact qq.elim
      | some bs =>
        rw [e3] at qq
        obtain ⟨bl, bat⟩ := boolsOf_at e3
        have fin : ∀ (a : Addr) (xs : List V), v = .ref a → (SqT X.K H1 a xs ∨ SqL X.K H1 a xs) → RpAll F.K G2 xs ds → ∃ (a : Addr) (xs : List V) (bs : List Bool), v = .ref a ∧ (SqT X.K H1 a xs ∨ SqL X.K H1 a xs) ∧ GxR.TabG H1 P ∧ bs.length = xs.length ∧
            (∀ (pins : List (Addr × Obj)) (its : List Value) (s1 : Shared), Inv X pins σ H1 s1 → Vals xs its → ∀ (i : Nat) (v : Value) (b : Bool), its[i]? = some v → bs[i]? = some b → EltT X P scope x elt s1 v b) ∧ ∀ H2, GxR.Tabbed P H1 H2 → Q (.bl (ag bs)) H2 := by
          intro a xs hv hsq rr
          refine ⟨a, xs, bs, hv, hsq, E2.tab.tb P hP, by rw [bl, rr.length], fun pins' its t1 J rv i u b hu hb => ?_, fun H2 hT => ?_⟩
          · obtain ⟨di, h1, h2⟩ := bat i b hb
            obtain ⟨vi, h3, h4⟩ := rr.get h1
            obtain ⟨ui, h5, h6⟩ := rv.get h3
            rw [hu] at h5
            cases h5
            refine elt_ok o (fun z => memS_ok z) TB (E2.tab.tb P hP) hq hg E2 J (qr_of (H := H1) (.inl h4) h6) (fun r hr => ?_) h2
            cases di <;> try cases hr
            cases h4 with
            | tup g1 g2 =>
              obtain ⟨its', r', pl, hz⟩ := J.tuple (show SqT X.K H1 _ _ by rw [o.hK]; exact sqT_up E2.gh g1)
              cases h6
              have hn := line63
              have hlen := r'.length
              exact ⟨_, its'.toArray, rfl, pl, by simp only [List.size_toArray] <;> omega, by rw [List.size_toArray, ← hlen, g2.length]⟩
          · exact qq (.bl (ag bs)) G2 H2 O1 (E2.extH (ext_tabbed (E2.tab.tb P hP) hT)) (s1.trans (.ofG s2)) rv_bl
        cases d <;> try cases e2
        · cases r2 with
          | tup h1 h2 => exact fin _ _ rfl (.inl (by rw [o.hK]; exact sqT_up E2.gh h1)) h2
        · cases r2 with
          | lst h1 h2 => exact fin _ _ rfl (.inr (.inl (.inl (E2.gh _ _ h1)))) h2
theorem e_gen {f : Str} {scope : Scope} {x : Str} {elt iter : Expr} {n : Nat} {q : QF} {m : M D} {fr : Bool} {p px gpos pos : Pos} (o : Xo F T N sc k X) (hh : T.hot = false) (hfa : (f == ("all" : Str) || f == ("any" : Str)) = true) (hf : f ∈ T.free) (gl : Gl X f) (hi : PE X iter (rdE F m fr)) (pl : iterPl iter = true) (hq : compQ (memS ("len" : Str) T.free) x N sc scope n elt = some q) (hg : genS sc scope x = true) :
    PE X (.Call (.Name f p) [.GeneratorExp elt [⟨.Name x px, iter, [], 0⟩] scope gpos] [] pos) (rdE F (genQ m q (if f == ("all" : Str) then allB else anyB)) true) := by
  obtain ⟨c, P, hcode, TB, hP⟩ := o.code
  refine ⟨fun pins s σ H Q I qq => ?_⟩
  by_cases hfb : (f == ("all" : Str)) = true
  · have ef := eq_of_beq hfb
    subst ef
    rw [if_pos hfb] at qq
    exact (pe_allG (o.rm hh) gl (o.free _ hf) TB hcode (genS_ok I.ok o.hs hg) hi (iterPl_fold pl)).run pins s σ H Q I (gen_tr o hh TB hP hq hg qq)
  · rw [if_neg hfb] at qq
    have hfc : (f == ("any" : Str)) = true := by
      rcases Bool.or_eq_true_iff.mp hfa with z | z
      · exact absurd z hfb
      · exact z
    have ef := eq_of_beq hfc
    subst ef
    exact (pe_anyG (o.rm hh) gl (o.free _ hf) TB hcode (genS_ok I.ok o.hs hg) hi (iterPl_fold pl)).run pins s σ H Q I (gen_tr o hh TB hP hq hg qq)
end
end Dv
/-! all(test of y for x, y in e): a tuple of pairs -/
namespace PySem
open Sem (wp)
theorem letGo_tupiter {prog : Program} {w : World} {A : Around} {E : Value → Shared → Prop} {s : Shared} {elts : List Expr} {x1} {pos : Pos} {I l T : Addr} {i : Nat} {Q : Unit → Shared → Prop} (hit : s.heap.IsTupleIter I l i) (hQ : Q () s) :
    wpAny (model prog w) A (letOwnedTupleGo (.Tuple elts x1 pos) (.ref I) (.ref T)) Q E s := by
  obtain ⟨o, ho, hc, hd⟩ := hit
  unfold letOwnedTupleGo
  refine wpAny_bind (wpAny_load ho ?_)
  rw [hc, hd]
  show wpAny _ A (if (["enumerate", "zip", "dict_itemiterator", "dict_reverseitemiterator", "odict_iterator", "itertools.zip_longest", "itertools.pairwise"].contains "tuple_iterator" &&
      (#[.ref l, .int i 0] : Array Value)[0]? == some (rawInt T)) = true then _ else _) Q E s
  rw [if_neg (by
    intro h
    rw [show (["enumerate", "zip", "dict_itemiterator", "dict_reverseitemiterator", "odict_iterator", "itertools.zip_longest", "itertools.pairwise"].contains "tuple_iterator") = false from by decide, Bool.false_and] at h
    cases h)]
  exact wpAny_pure hQ
theorem WalksU.tupOfTuples {prog : Program} {w : World} {A : Around} (hh : A.handled = none) (I ax : Addr) (hne : ax ≠ I) (items : Array Value) (Ts : Nat → Addr) (vals : Nat → Array Value)
    (hit : ∀ j, j < items.size → items[j]? = some (.ref (Ts j))) (hTI : ∀ j, j < items.size → Ts j ≠ I) :
    WalksU prog w A I (I :: ax :: (List.range items.size).map Ts) [I] items.size (fun j v => v = vals j)
      (fun j h => h.IsTupleIter I ax j ∧ h.IsTuple ax items ∧ ∀ k, k < items.size → h.IsTuple (Ts k) (vals k))
      (fun j T h => (j < items.size ∧ T = Ts j) ∧ h.IsTupleIter I ax (j + 1) ∧ h.IsTuple ax items ∧ ∀ k, k < items.size → h.IsTuple (Ts k) (vals k)) where
  sub := fun b hb => by simp at hb; simp [hb]
  frame := fun _ _ _ st hk => ⟨st.1.at fun o e => hk I (by simp) o e, st.2.1.at fun o e => hk ax (by simp) o e,
    fun k hk' => (st.2.2 k hk').at fun o e => hk (Ts k) (List.mem_cons_of_mem _ (List.mem_cons_of_mem _ (List.mem_map.mpr ⟨k, List.mem_range.mpr hk', rfl⟩))) o e⟩
  item := fun i s Q E hi st hQ => by
    refine wpAny_pyNext_tuple_item st.1 st.2.1 (x := .ref (Ts i)) (hit i hi) fun h' hit' hs' => ?_
    have tup : ∀ k, k < items.size → h'.IsTuple (Ts k) (vals k) := fun k hk' => (st.2.2 k hk').extBut hs'.extBut (hTI k hk')
    exact hQ (Ts i) (vals i) h' s.toks rfl (tup i hi) ⟨⟨hi, rfl⟩, hit', st.2.1.extBut hs'.extBut hne, tup⟩ fun b o hb e => hs'.extBut b o (fun h => hb (by simp [h])) e
  go := fun _ _ _ _ _ s Q _ hm hQ => letGo_tupiter hm.2.1 (hQ s.heap hm.2 fun _ _ _ e => e)
  apart := fun j T _ hm hmem => by
    rcases List.mem_cons.mp hmem with e | e
    · exact hTI j hm.1.1 (hm.1.2 ▸ e)
    · cases e
  done := fun s Q E st hQ => wpAny_pyNext_tuple_end hh st.1 st.2.1 (by simp) fun h' he' => hQ h' s.toks fun b o hb e => he' b o (fun h => hb (by simp [h])) e
  self := fun _ _ _ _ st hQ => wpAny_pyIter_tupleiter st.1 hQ
end PySem
namespace Dv
open PySem PySem.Spec L2 PyProof.Rows
section
variable {X : Cx} {pins : List (Addr × Obj)} {σ : L2.St} {H : Hp} {s : Shared}
/-- pairs, and what the test answers at the second of each -/
def PrsAt (X : Cx) (P : Addr) (scope : Scope) (x : Str) (elt : Expr) (σ : L2.St) (H : Hp) (xs : List V) (bs : List Bool) : Prop :=
  ∀ (j : Nat) (v : V), xs[j]? = some v → ∃ (t : Addr) (ya yb : V) (b : Bool), v = .ref t ∧ SqT X.K H t [ya, yb] ∧ bs[j]? = some b ∧ ∀ (pins : List (Addr × Obj)) (s1 : Shared) (u : Value), Inv X pins σ H s1 → RelV yb u → EltT X P scope x elt s1 u b
theorem prs_at {P : Addr} {scope : Scope} {x : Str} {elt : Expr} {H1 : Hp} {s1 : Shared} {xs : List V} {its : List Value} {bs : List Bool} (I1 : Inv X pins σ H1 s1) (rv : Vals xs its) (h : PrsAt X P scope x elt σ H1 xs bs) :
    ∃ (Ts : Nat → Addr) (va vb : Nat → Value), (∀ j, j < its.length → its[j]? = some (.ref (Ts j))) ∧ (∀ j, j < its.length → s1.heap.IsTuple (Ts j) #[va j, vb j]) ∧ ∀ j b, j < its.length → bs[j]? = some b → EltT X P scope x elt s1 (vb j) b := by
  have hex : ∀ j, ∃ p : Addr × Value × Value, j < its.length → its[j]? = some (.ref p.1) ∧ s1.heap.IsTuple p.1 #[p.2.1, p.2.2] ∧ ∀ b, bs[j]? = some b → EltT X P scope x elt s1 p.2.2 b := by
    intro j
    by_cases hj : j < its.length
    · have hx : j < xs.length := by rw [rv.length]; exact hj
      obtain ⟨t, ya, yb, b, e1, e2, e3, e4⟩ := h j xs[j] (List.getElem?_eq_getElem hx)
      obtain ⟨u, hu1, hu2⟩ := rv.get (List.getElem?_eq_getElem hx)
      rw [e1] at hu2
      cases hu2
      obtain ⟨us, r1, r2, _⟩ := I1.tuple e2
      obtain ⟨u1, u2, e5, r3, r4⟩ := vals2 r1
      subst e5
      exact ⟨(t, u1, u2), fun _ => ⟨hu1, r2, fun b' hb' => by rw [e3] at hb'; cases hb'; exact e4 pins s1 u2 I1 r4⟩⟩
    · exact ⟨(0, .none, .none), fun z => absurd z hj⟩
  refine ⟨fun j => (Classical.choose (hex j)).1, fun j => (Classical.choose (hex j)).2.1, fun j => (Classical.choose (hex j)).2.2, fun j hj => ?_, fun j hj => ?_, fun j b hj hb => ?_⟩
  · exact (Classical.choose_spec (hex j) hj).1
  · exact (Classical.choose_spec (hex j) hj).2.1
  · exact (Classical.choose_spec (hex j) hj).2.2 b hb
theorem gen_anyP {c P : Addr} {elt iter : Expr} {xa x : Str} {pa px pt gpos : Pos} {kt : Nat} {scope : Scope} {te : TE} {k : Nat} {Q' : Value → Shared → Prop} {R : List Bool → Hp → Prop}
    (hr : Room k X.A) (TB : GxR.TabB X.base X.mg c P) (hcode : X.env.code = .ref c) (S : GxR.GenS X.env scope x) (hxa : scope.names.lookup xa = some .local) (hab : xa ≠ x) (hi : PE X iter te)
    (hs : ∀ v, genFold iter X.env v = pure v) (I : Inv X pins σ H s)
    (h : te σ H fun v H1 => ∃ (a : Addr) (xs : List V) (bs : List Bool), v = .ref a ∧ SqT X.K H1 a xs ∧ GxR.TabG H1 P ∧ bs.length = xs.length ∧
      PrsAt X P scope x elt σ H1 xs bs ∧ R bs H1)
    (hQ : ∀ bs H1 g s5, R bs H1 → ReadyB X pins σ H1 P bs g s5 → Q' (.ref g) s5) :
    wpAny (model X.prog X.w) X.A (eval (.GeneratorExp elt [⟨.Tuple [.Name xa pa, .Name x px] kt pt, iter, [], 0⟩] scope gpos) X.env) Q' X.xe s := by
  refine wpAny_GeneratorExp_walksQT hr.hd S.co (closure_ok S.free) S.cell S.dot hxa S.loc hab S.kind (by have := hr.dp; omega) ?_ hs
  refine thn (hi.run pins s σ H _ I h) fun xv s1 ⟨v, H1, I1, r1, q1⟩ => ?_
  obtain ⟨a, xs, bs, rfl, hsq, ⟨ps, hP, ht⟩, hlen, hel0, q1⟩ := q1
  cases r1
  obtain ⟨its, rv, ht0, _⟩ := I1.tuple hsq
  obtain ⟨Ts, va, vb, hTs, hTt, hel⟩ := prs_at I1 rv hel0
  have halt0 : a < s1.heap.objs.size := by obtain ⟨u, hu, _⟩ := ht0; exact Heap.lt_size hu
  have hTlt : ∀ j, j < its.toArray.size → Ts j < s1.heap.objs.size := fun j hj => by obtain ⟨_, e, _⟩ := hTt j (by simpa using hj); exact Heap.lt_size e
  have hit : ∀ j, j < its.toArray.size → its.toArray[j]? = some (.ref (Ts j)) := fun j hj => by rw [List.getElem?_toArray]; exact hTs j (by simpa using hj)
  have W := fun (A' : Around) (hA : A'.handled = none) => (WalksU.tupOfTuples (prog := X.prog) (w := X.w) hA s1.heap.objs.size a (Nat.ne_of_lt halt0) its.toArray Ts (fun j => #[va j, vb j]) hit fun j hj => Nat.ne_of_lt (hTlt j hj)).bound
  have hbl : bs.length = its.toArray.size := by rw [hlen, rv.length, List.size_toArray]
  refine wpAny_pyIter_tuple ht0 ?_
  obtain ⟨ua, hua, hcu, _⟩ := id ht0
  have hca : ua.cls ≠ .none := by rw [hcu]; intro e; cases e
  generalize ho : ({ cls := .type "tuple_iterator", data := .fields #[.ref a, .int 0 0] } : Obj) = o
  have hPs : s1.heap.get? P = some { cls := .none, data := .fields ps } := I1.hok P _ hP
  have haP : a ≠ P := fun z => by
    rw [z, hPs] at hua
    cases hua
    exact hca rfl
  have hPlt : P < s1.heap.objs.size := Heap.lt_size hPs
  have hTP : ∀ k, k < its.toArray.size → Ts k ≠ P := fun k hk z => by
    obtain ⟨o', h1, h2, _⟩ := hTt k (by simpa using hk)
    rw [z, hPs] at h1
    cases h1
    cases h2
  have halt : a < s1.heap.objs.size := Heap.lt_size hua
  have hP2 : (s1.heap.push o).get? P = some { cls := .none, data := .fields ps } := Heap.get?_push_of_some _ hPs
  have cd : PySem.W.CodeHd (s1.heap.push o) c P := TB.code.keeps fun b u e => Heap.get?_push_of_some _ (I1.bk b u e)
  have lim2 : (s1.heap.push o).NoLimit := I1.nolimit.push o
  have cont : ∀ (code : Value) (h3 : Heap) (tk : Nat) (ps' : Array Value), Heap.ExtBut P (s1.heap.push o) h3 → (s1.heap.push o).objs.size ≤ h3.objs.size → h3.get? P = some { cls := .none, data := .fields ps' } → (∃ more, ps' = ps ++ more) → TriplesOk ps'.toList →
      wpAny (model X.prog X.w) X.A (builtinsFor X.env.globals X.env.builtins) (fun bi s₄ =>
        ∃ Ia fp wr n₀ Pf St₀ Mid pz F, Value.ref s1.heap.objs.size = .ref Ia ∧ (∀ A' : Around, A'.handled = none → WalksU X.prog X.w A' Ia fp wr n₀ Pf St₀ Mid) ∧ (∀ i vals, Pf i vals → ∃ va vb, vals = #[va, vb]) ∧ St₀ 0 s₄.heap ∧ (∀ b ∈ fp, b < s₄.heap.objs.size) ∧ s₄.heap.NoLimit ∧ cStatics ∉ wr ∧
          (∀ href : Heap, (∀ b o, s₄.heap.get? b = some o → href.get? b = some o) →
            QuietGenT X.prog X.w (genEnv scope (cloFrom X.env.cells scope.names []) s₄.heap.objs.size code bi X.env) xa x [] elt (List.range s₄.heap.objs.size) wr Pf pz F href) ∧
          (∀ a h₅ tk gs, gs.bare = true → s₄.heap.objs.size < a → h₅.objs.size = a + 1 → (∀ b o, s₄.heap.get? b = some o → h₅.get? b = some o) →
            WalksS X.prog X.w X.A.in4 a (a :: s₄.heap.objs.size :: List.range s₄.heap.objs.size) (s₄.heap.objs.size :: wr) (GenOnlyQ s₄.gens.size) (passing pz n₀ 0).length
              (fun j y => ∃ i, (passing pz n₀ 0)[j]? = some i ∧ F i y) (GenAt X.prog X.w X.A.in4 a s₄.gens.size s₄.heap.objs.size (List.range s₄.heap.objs.size) wr pz n₀ F) →
            GenAt X.prog X.w X.A.in4 a s₄.gens.size s₄.heap.objs.size (List.range s₄.heap.objs.size) wr pz n₀ F 0 { s₄ with gens := s₄.gens.push gs, toks := tk, heap := h₅ } →
            Q' (.ref a) { s₄ with gens := s₄.gens.push gs, toks := tk, heap := h₅ })) X.xe { s1 with heap := h3, toks := tk } := by
    intro code h3 tk ps' hx hsz hP3 hmore ht3
    obtain ⟨bm, ob, e1, e2, e3, e4, e5, e6, e7, e8⟩ := TB.bm
    have hcP : cStatics ≠ P := fun e => by
      obtain ⟨_, hns, _⟩ := I1.nolimit
      obtain ⟨o', es, ep, ho, hd, _⟩ := hns
      rw [e, hPs] at ho
      cases ho
      cases hd
    have hcl : cStatics < s1.heap.objs.size := let ⟨_, hns, _⟩ := I1.nolimit; hns.lt
    have sz2 : (s1.heap.push o).objs.size = s1.heap.objs.size + 1 := Heap.size_push ..
    have keep3 : ∀ b u, b ≠ P → s1.heap.get? b = some u → h3.get? b = some u := fun b u hb e => hx b u hb (Heap.get?_push_of_some _ e)
    refine wpAny_builtinsFor (m := X.mg) (by rw [I1.ok.glob]; exact ((I1.mod.glob.keeps I1.bk).push o).extBut hx TB.gP) e1 e2 (keep3 _ _ e4 (I1.bk _ _ e5)) e6 e7 e8 ?_
    refine ⟨s1.heap.objs.size, _, [s1.heap.objs.size], its.toArray.size, _, _, _, (fun _ => true), (fun i y => y = .bool (trB bs i)), rfl, W, (fun i v hv => ⟨_, _, hv.2⟩), ?_, ?_, lim2.extBut hx hcP, ?_, ?_, ?_⟩
    · refine (W X.A hr.hd).frame _ _ _ ⟨⟨_, Heap.get?_push_size _ (by rw [← ho]; rfl), by rw [← ho], by rw [← ho]; rfl⟩, ht0.push _, fun k hk => (hTt k (by simpa using hk)).push _⟩ fun b hb u e => hx b u (fun z => ?_) e
      rcases List.mem_cons.mp hb with z2 | z2
      · exact Nat.ne_of_lt hPlt (z.symm.trans z2)
      · rcases List.mem_cons.mp z2 with z2 | z2
        · exact haP (z2.symm.trans z)
        · obtain ⟨k, hk, ek⟩ := List.mem_map.mp z2
          exact hTP k (List.mem_range.mp hk) (ek.trans z)
    · intro b hb
      have sz3 : s1.heap.objs.size + 1 ≤ h3.objs.size := by rw [← sz2]; exact hsz
      rcases List.mem_cons.mp hb with z | z
      · rw [z]
        exact sz3
      · rcases List.mem_cons.mp z with z | z
        · rw [z]
          exact Nat.lt_of_lt_of_le halt (Nat.le_of_succ_le sz3)
        · obtain ⟨k, hk, ek⟩ := List.mem_map.mp z
          rw [← ek]
          exact Nat.lt_of_lt_of_le (hTlt k (List.mem_range.mp hk)) (Nat.le_of_succ_le sz3)
    · intro z
      rcases List.mem_cons.mp z with z | z
      · exact Nat.ne_of_lt hcl z
      · cases z
    · intro href hhref
      refine ⟨fun A' E' i ua ub s₂ m₂ hA hPv hn hma hm hk => ?_, fun A' E' i ua ub s₂ m₂ hA hPv hp hn hma hm hk => ?_⟩
      · simp only [List.forIn_nil]
        exact wpAny_pure ⟨rfl, GxR.keeps_refl _⟩
      · have hi' : i < its.toArray.size := hPv.1
        have hi : i < bs.length := by rw [hbl]; exact hi'
        have hub : ub = vb i := by
          have := congrArg Array.toList hPv.2
          simp only [List.cons.injEq, and_true] at this
          exact this.2
        subst hub
        have hb : bs[i]? = some (trB bs i) := by
          unfold trB
          rw [List.getElem?_eq_getElem hi]
          rfl
        have kk : ∀ b o, b ≠ P → s1.heap.get? b = some o → s₂.heap.get? b = some o := fun b o hbP ho => by
          have hbl' : b < s1.heap.objs.size := Heap.lt_size ho
          refine hk b (List.mem_range.mpr ?_) ?_ o (hhref _ _ (keep3 b o hbP ho))
          · exact Nat.lt_of_lt_of_le hbl' (show s1.heap.objs.size ≤ h3.objs.size by omega)
          · intro z
            rcases List.mem_cons.mp z with z | z
            · exact Nat.ne_of_lt hbl' z
            · cases z
        refine hel i _ (by simpa using hi') hb _ A' E' s₂ m₂ rfl rfl hn hm (fun y cc u hy hcell => ?_) kk rfl rfl
        obtain ⟨oc, hoc, hdc⟩ := hcell
        have hccP : cc ≠ P := fun z => by
          have := I1.freeC y cc hy
          rw [z, hP] at this
          cases this
        exact ⟨oc, kk cc oc hccP hoc, hdc⟩
    · intro g h5 tk5 gs hgb hag hsz5 hk5 W5 hat
      simp only [GxR.passing_true, List.length_range] at W5
      have hn0 : its.toArray.size = bs.length := hbl.symm
      refine hQ bs H1 g _ q1 ⟨_, _, _, _, _, by rw [← hn0]; exact W5.in4_1, hat, ?_, fun s' hm => ?_⟩
      · intro j y sj Qj Ej hy hQj
        obtain ⟨i, hij, rfl⟩ := hy
        obtain ⟨hj, ej⟩ := List.getElem?_eq_some_iff.mp hij
        rw [List.getElem_range] at ej
        subst ej
        exact wpAny_truthy_bool hQj
      · obtain ⟨more, em⟩ := hmore
        have nwr : ∀ b u, s1.heap.get? b = some u → b ∉ h3.objs.size :: [s1.heap.objs.size] := fun b u e hb => by
          have hl := Heap.lt_size e
          rcases List.mem_cons.mp hb with z | z
          · rw [z] at hl
            have h9 : (h3.objs.size : Nat) < s1.heap.objs.size := hl
            omega
          · rcases List.mem_cons.mp z with z | z
            · rw [z] at hl
              exact Nat.lt_irrefl _ hl
            · cases z
        have J := GxR.inv_tab (more := more) (h' := s'.heap) (g' := s'.gens) (d' := s'.drawn) (t' := s'.toks) I1 hP (fun b u hb e => hm.heap b u (nwr b u e) (hk5 b u (keep3 b u hb e)))
          (by rw [← em]; exact hm.heap P _ (nwr P _ hPs) (hk5 P _ hP3)) (AllBare.movedS (I1.bare.push hgb) hm)
        rw [GxR.sh_eta s1 s' hm.os] at J
        exact ⟨upd H1 P (.tbl (ps ++ more)), ⟨⟨ps ++ more, upd_same, by rw [← em]; exact ht3⟩, fun b hb => upd_ne hb⟩, J⟩
  refine ⟨lim2, ?_⟩
  cases hf : codeAmong gpos ps.toList with
  | none =>
    refine wpAny_genexprCodeX hcode (cd.code hP2 ht) (cd.tab hP2) hf fun c' h' tk hx hge hlt hco' _ htab' _ => ?_
    obtain ⟨o1, vs, f1, tf, fl, tg, inF, tx, tt, op, _, _, _, _, _, _, _, _, _, htr, _⟩ := hco'
    exact cont _ h' tk _ hx (Nat.le_trans hge (Nat.le_of_lt hlt)) htab'.2 ⟨_, rfl⟩ htr
  | some cv =>
    refine wpAny_genexprCode_hit hcode (cd.code hP2 ht) hf ?_
    exact cont cv (s1.heap.push o) s1.toks ps (Heap.ExtBut.refl _ _) (Nat.le_refl _) hP2 ⟨#[], by simp⟩ ht
def tGenP (X : Cx) (P : Addr) (scope : Scope) (x : Str) (elt : Expr) (ag : List Bool → Bool) (te : TE) : TE := fun σ H Q => te σ H fun v H1 => ∃ (a : Addr) (xs : List V) (bs : List Bool), v = .ref a ∧ SqT X.K H1 a xs ∧ GxR.TabG H1 P ∧ bs.length = xs.length ∧
      PrsAt X P scope x elt σ H1 xs bs ∧ ∀ H2, GxR.Tabbed P H1 H2 → Q (.bl (ag bs)) H2
theorem pe_allP {c P : Addr} {elt iter : Expr} {xa x : Str} {pa px pt p pos gpos : Pos} {kt : Nat} {scope : Scope} {te : TE} {k : Nat}
    (hr : Room k X.A) (hg : Gl X "all") (hm : X.mg "all" = none) (TB : GxR.TabB X.base X.mg c P) (hcode : X.env.code = .ref c) (S : GxR.GenS X.env scope x) (hxa : scope.names.lookup xa = some .local) (hab : xa ≠ x) (hi : PE X iter te) (hs : ∀ v, genFold iter X.env v = pure v) :
    PE X (.Call (.Name "all" p) [.GeneratorExp elt [⟨.Tuple [.Name xa pa, .Name x px] kt pt, iter, [], 0⟩] scope gpos] [] pos) (tGenP X P scope x elt (fun bs => bs.all id) te) := by
  have he : starEach [.GeneratorExp elt [⟨.Tuple [.Name xa pa, .Name x px] kt pt, iter, [], 0⟩] scope gpos] X.env = (false, eval (.GeneratorExp elt [⟨.Tuple [.Name xa pa, .Name x px] kt pt, iter, [], 0⟩] scope gpos) X.env) :: starEach [] X.env := rfl
  refine ⟨fun pins s σ H Q I h => ?_⟩
  refine wpAny_Call_Name_kw (ld_blt I hg hm boot_all ?_)
  refine PyProof.Rows.callWith_builtin1 ?_ he (by rfl)
  rw [he]
  show wpAny _ _ (spliced ((false, eval (.GeneratorExp elt [⟨.Tuple [.Name xa pa, .Name x px] kt pt, iter, [], 0⟩] scope gpos) X.env) :: backTo pos (starEach [] X.env))) _ _ s
  refine Calls.spliced_cons (gen_anyP (R := fun bs H1 => ∀ H2, GxR.Tabbed P H1 H2 → Q (.bl (bs.all id)) H2) hr TB hcode S hxa hab hi hs I h fun bs H1 g s5 hR hG => ?_)
  obtain ⟨fp, wr, G, F, St, W, hst, htr, hI⟩ := hG
  refine Calls.spliced_nil ?_
  refine call_all_walkS (W.self 0 _ _ _ hst ⟨g, fp, wr, G, _, F, St, _, rfl, W, hst, htr, fun s' hmv => ?_⟩)
  obtain ⟨H2, hT, J⟩ := hI s' hmv
  refine ⟨.bl _, H2, J, rfl, ?_⟩
  rw [all_trB bs]
  exact hR H2 hT
theorem pe_anyP {c P : Addr} {elt iter : Expr} {xa x : Str} {pa px pt p pos gpos : Pos} {kt : Nat} {scope : Scope} {te : TE} {k : Nat}
    (hr : Room k X.A) (hg : Gl X "any") (hm : X.mg "any" = none) (TB : GxR.TabB X.base X.mg c P) (hcode : X.env.code = .ref c) (S : GxR.GenS X.env scope x) (hxa : scope.names.lookup xa = some .local) (hab : xa ≠ x) (hi : PE X iter te) (hs : ∀ v, genFold iter X.env v = pure v) :
    PE X (.Call (.Name "any" p) [.GeneratorExp elt [⟨.Tuple [.Name xa pa, .Name x px] kt pt, iter, [], 0⟩] scope gpos] [] pos) (tGenP X P scope x elt (fun bs => bs.any id) te) := by
  have he : starEach [.GeneratorExp elt [⟨.Tuple [.Name xa pa, .Name x px] kt pt, iter, [], 0⟩] scope gpos] X.env = (false, eval (.GeneratorExp elt [⟨.Tuple [.Name xa pa, .Name x px] kt pt, iter, [], 0⟩] scope gpos) X.env) :: starEach [] X.env := rfl
  refine ⟨fun pins s σ H Q I h => ?_⟩
  refine wpAny_Call_Name_kw (ld_blt I hg hm boot_any ?_)
  refine PyProof.Rows.callWith_builtin1 ?_ he (by rfl)
  rw [he]
  show wpAny _ _ (spliced ((false, eval (.GeneratorExp elt [⟨.Tuple [.Name xa pa, .Name x px] kt pt, iter, [], 0⟩] scope gpos) X.env) :: backTo pos (starEach [] X.env))) _ _ s
  refine Calls.spliced_cons (gen_anyP (R := fun bs H1 => ∀ H2, GxR.Tabbed P H1 H2 → Q (.bl (bs.any id)) H2) hr TB hcode S hxa hab hi hs I h fun bs H1 g s5 hR hG => ?_)
  obtain ⟨fp, wr, G, F, St, W, hst, htr, hI⟩ := hG
  refine Calls.spliced_nil ?_
  refine call_any_walkS (W.self 0 _ _ _ hst ⟨g, fp, wr, G, _, F, St, _, rfl, W, hst, htr, fun s' hmv => ?_⟩)
  obtain ⟨H2, hT, J⟩ := hI s' hmv
  refine ⟨.bl _, H2, J, rfl, ?_⟩
  rw [any_trB bs]
  exact hR H2 hT
end
/-! ### as read -/
theorem snds_at : ∀ {ds ys : List D}, sndsOf ds = some ys → ys.length = ds.length ∧ ∀ (i : Nat) (d : D), ds[i]? = some d → ∃ x y, d = .tup [x, y] ∧ ys[i]? = some y
  | [], ys, h => by
    cases h
    exact ⟨rfl, fun i d e => by simp at e⟩
  | .tup [x, y] :: ds, ys, h => by
    unfold sndsOf at h
    cases e : sndsOf ds with
    | none => rw [e] at h; cases h
    | some zs =>
      rw [e] at h
      cases h
      obtain ⟨l, f⟩ := snds_at e
      refine ⟨by rw [List.length_cons, List.length_cons, l], fun i d ed => ?_⟩
      cases i with
      | zero =>
        simp at ed
        subst ed
        exact ⟨x, y, rfl, rfl⟩
      | succ i =>
        obtain ⟨x', y', g1, g2⟩ := f i d (by simpa using ed)
        exact ⟨x', y', g1, by simpa using g2⟩
  | .tup [] :: ds, ys, h => by cases h
  | .tup [_] :: ds, ys, h => by cases h
  | .tup (_ :: _ :: _ :: _) :: ds, ys, h => by cases h
  | .non :: ds, ys, h => by cases h
  | .bl _ :: ds, ys, h => by cases h
  | .int _ :: ds, ys, h => by cases h
  | .str _ :: ds, ys, h => by cases h
  | .lst _ :: ds, ys, h => by cases h
  | .dic _ _ :: ds, ys, h => by cases h
  | .scr _ :: ds, ys, h => by cases h
section
variable {F : Fx} {T : Tab} {N : List Str} {sc : Scope} {k : Nat} {X : Cx}
theorem genP_tr {scope : Scope} {x : Str} {elt : Expr} {n : Nat} {q : QF} {m : M D} {fr : Bool} {ag : List Bool → Bool} {c P : Addr} {σ : L2.St} {H : Hp} {Q : VK} (o : Xo F T N sc k X) (hh : T.hot = false) (TB : GxR.TabB X.base X.mg c P) (hP : P ∈ F.XR.tabs) (hq : compQ (memS ("len" : Str) T.free) x N sc scope n elt = some q) (hg : genS sc scope x = true) (qq : rdE F (genP m q ag) true σ H Q) : tGenP X P scope x elt ag (rdE F m fr) σ H Q := by
  obtain ⟨G, ρ, O, E, qq⟩ := qq
  refine ⟨G, ρ, O, E, ?_⟩
  unfold genP at qq
  cases e1 : m ρ with
  | bad => rw [e1] at qq; exact qq
  | exc x ρ1 => rw [e1] at qq; exact qq
  | ok d ρ1 =>
    rw [e1] at qq
    intro v G1 H1 O1 E1 s1 r1
    simp only [Dv.R.bind_ok] at qq
    obtain ⟨G2, s2, E2, r2⟩ := E1.hold r1
    cases d <;> try exact qq.elim
    rename_i ds
    simp only at qq
    cases e2 : sndsOf ds with
    | none => rw [e2] at qq; exact qq.elim
    | some ys =>
      rw [e2] at qq
      simp only at qq
      cases e3 : boolsOf q ρ1 ys with
      | none => rw [e3] at qq; exact qq.elim
      | some bs =>
        rw [e3] at qq
        obtain ⟨bl, bat⟩ := boolsOf_at e3
        obtain ⟨yl, yat⟩ := snds_at e2
        cases r2 with
        | tup g1 g2 =>
          rename_i a xs
          refine ⟨a, xs, bs, rfl, by rw [o.hK]; exact sqT_up E2.gh g1, E2.tab.tb P hP, by rw [bl, yl, g2.length], fun j w hw => ?_, fun H2 hT => ?_⟩
          · obtain ⟨dj, h1, h2⟩ := g2.get' hw
            obtain ⟨dx, dy, e5, e6⟩ := yat j dj h1
            subst e5
            cases h2 with
            | tup k1 k2 =>
              cases k2 with
              | cons ka kb =>
                cases kb with
                | cons kc kd =>
                  cases kd
                  have hj : j < bs.length := by
                    rw [bl]
                    exact (List.getElem?_eq_some_iff.mp e6).1
                  have hb := List.getElem?_eq_getElem hj
                  obtain ⟨d', h3, h4⟩ := bat j _ hb
                  rw [e6] at h3
                  cases h3
                  refine ⟨_, _, _, _, rfl, by rw [o.hK]; exact sqT_up E2.gh k1, hb, fun pins' t1 u J ru => ?_⟩
                  refine elt_ok o (fun z => memS_ok z) TB (E2.tab.tb P hP) hq hg E2 J (qr_of (H := H1) (.inl kc) ru) (fun r hr => ?_) h4
                  cases dy <;> try cases hr
                  cases kc with
                  | tup n1 n2 =>
                    obtain ⟨its', r', pl, hz⟩ := J.tuple (show SqT X.K H1 _ _ by rw [o.hK]; exact sqT_up E2.gh n1)
                    cases ru
                    have hn := line63
                    have hlen := r'.length
                    exact ⟨_, its'.toArray, rfl, pl, by simp only [List.size_toArray] <;> omega, by rw [List.size_toArray, ← hlen, n2.length]⟩
          · exact qq (.bl (ag bs)) G2 H2 O1 (E2.extH (ext_tabbed (E2.tab.tb P hP) hT)) (s1.trans (.ofG s2)) rv_bl
theorem e_genP {f : Str} {scope : Scope} {xa x : Str} {elt iter : Expr} {n : Nat} {q : QF} {m : M D} {fr : Bool} {p pa px pt gpos pos : Pos} {kt : Nat} (o : Xo F T N sc k X) (hh : T.hot = false) (hfa : (f == ("all" : Str) || f == ("any" : Str)) = true) (hf : f ∈ T.free) (gl : Gl X f) (hi : PE X iter (rdE F m fr)) (pl : iterPl iter = true) (hq : compQ (memS ("len" : Str) T.free) x N sc scope n elt = some q) (hg : genS sc scope x = true) (hxa : scope.names.lookup xa = some .local) (hab : xa ≠ x) :
    PE X (.Call (.Name f p) [.GeneratorExp elt [⟨.Tuple [.Name xa pa, .Name x px] kt pt, iter, [], 0⟩] scope gpos] [] pos) (rdE F (genP m q (if f == ("all" : Str) then allB else anyB)) true) := by
  obtain ⟨c, P, hcode, TB, hP⟩ := o.code
  refine ⟨fun pins s σ H Q I qq => ?_⟩
  by_cases hfb : (f == ("all" : Str)) = true
  · have ef := eq_of_beq hfb
    subst ef
    rw [if_pos hfb] at qq
    exact (pe_allP (o.rm hh) gl (o.free _ hf) TB hcode (genS_ok I.ok o.hs hg) hxa hab hi (iterPl_fold pl)).run pins s σ H Q I (genP_tr o hh TB hP hq hg qq)
  · rw [if_neg hfb] at qq
    have hfc : (f == ("any" : Str)) = true := by
      rcases Bool.or_eq_true_iff.mp hfa with z | z
      · exact absurd z hfb
      · exact z
    have ef := eq_of_beq hfc
    subst ef
    exact (pe_anyP (o.rm hh) gl (o.free _ hf) TB hcode (genS_ok I.ok o.hs hg) hxa hab hi (iterPl_fold pl)).run pins s σ H Q I (genP_tr o hh TB hP hq hg qq)
end
end Dv
namespace Dv
open PySem L2 PyProof.Rows
section
variable {F : Fx} {T : Tab} {N : List Str} {sc : Scope} {k : Nat} {X : Cx} {e a b tg : Expr} {pos : Pos}
/-- within a comprehension's block -/
theorem Xo.blk (o : Xo F T N sc k X) (hh : T.hot = false) (B : Hp) (s : Shared) (H : Hp) (scope : Scope) (C : Addr) (cl : List (Str × Addr)) (fp : List Addr) : Xo (F.in' B) T N (relS scope sc) k (X.blk s H scope (compEnvC scope cl C X.env) fp) where
  hK := o.hK
  hN := o.hN
  hs := by
    rw [← o.hs]
    rfl
  nd := o.nd
  calm := o.calm
  room := o.room
  cold := o.cold
  hfns := o.hfns
  exc := o.exc
  xr := o.xr
  fns := fun e he => ⟨fun _ => (o.fns e he).1 hh, fun z => by rw [hh] at z; cases z⟩
  cons := o.cons
  free := o.free
  code := o.code
  pass := fun σ pins H s e s' I c => by
    obtain ⟨_, _, _, _, _, _, _, _, _, _, _, _, z⟩ := c
    exact z.elim
theorem blk_loc {s : Shared} {H : Hp} {scope : Scope} {C : Addr} {cl : List (Str × Addr)} {fp : List Addr} {x : Str} (h : scope.names.lookup x = some .local ∨ scope.names.lookup x = some .cell) :
    Loc (X.blk s H scope (compEnvC scope cl C X.env) fp).env.scope x ∧ ((X.blk s H scope (compEnvC scope cl C X.env) fp).fn x = true ∨ (X.blk s H scope (compEnvC scope cl C X.env) fp).env.scope.names.lookup x = some .local) := by
  rcases h with h | h
  · have h2 := lookup_relS_keep (sc := X.env.scope) (k := .local) (fun z => nomatch z) h
    exact ⟨.inl h2, .inr h2⟩
  · have h2 := lookup_relS_keep (sc := X.env.scope) (k := .cell) (fun z => nomatch z) h
    refine ⟨.inr h2, .inl ?_⟩
    show (scope.names.lookup x == some .cell) = true
    rw [h]
    rfl
/-- what is shown of texts up to a depth -/
structure CompOk (T : Tab) (N : List Str) (n : Nat) : Prop where
  e : ∀ (sc : Scope) (e : Expr) (m : M D) (fr : Bool), compE T N n sc e = some (m, fr) → ∀ (F : Fx) (X : Cx) (k : Nat), Xo F T N sc k X → PE X e (rdE F m fr)
  t : ∀ (sc : Scope) (e : Expr) (m : M Bool), compT T N n sc e = some m → ∀ (F : Fx) (X : Cx) (k : Nat), Xo F T N sc k X → PT X e (rdT F m)
  i : ∀ (sc : Scope) (tg e : Expr) (m : M (List D)), compI T N n sc tg e = some m → ∀ (F : Fx) (X : Cx) (k : Nat), Xo F T N sc k X → PI X tg e (rdI F m)
theorem eq3 {α β γ : Type} {x : Option α} {y : Option β} {f : α → β → Option γ} {r : γ} (h : (match x, y with | some a, some b => f a b | _, _ => none) = some r) : ∃ a b, x = some a ∧ y = some b ∧ f a b = some r := by
  cases x <;> cases y <;> first | exact ⟨_, _, rfl, rfl, h⟩ | cases h
theorem CompOk.lc {n : Nat} (ih : CompOk T N n) {elt iter : Expr} {ifs : List Expr} {scope : Scope} {m : M D} {fr : Bool} (o : Xo F T N sc k X) (hh : T.hot = false)
    (h : (if plainE iter && blkC N sc scope (ownOf N scope) then
        (match compI T N n sc tg iter, compTg N scope n tg, compE T N n (relS scope sc) elt with
        | some mi, some t, some m => if (tgSlots t).all fun i => (ownOf N scope).any fun q => q.2 == i then (match ifs with
          | [] => some (compM mi ((ownOf N scope).map (·.2)) t yesM m.1, true)
          | [c] => (compT T N n (relS scope sc) c).map fun cc => (compM mi ((ownOf N scope).map (·.2)) t cc m.1, true)
          | _ => none) else none
        | _, _, _ => none) else none) = some (m, fr)) :
    ∃ mi t me cond fe, plainE iter = true ∧ BlkOk X.N X.env.scope scope (ownOf N scope) ∧ PI X tg iter (rdI F mi) ∧ (∀ i ∈ tgSlots t, i ∈ (ownOf N scope).map (·.2)) ∧
      (∀ (s : Shared) (H : Hp) (C : Addr) (cl : List (Str × Addr)) (fp : List Addr), PG (X.blk s H scope (compEnvC scope cl C X.env) fp) tg (gOf X.K t)) ∧
      (∀ (s : Shared) (H : Hp) (C : Addr) (cl : List (Str × Addr)) (fp : List Addr) (B : Hp), PTs (X.blk s H scope (compEnvC scope cl C X.env) fp) ifs (rdT (F.in' B) cond)) ∧
      (∀ (s : Shared) (H : Hp) (C : Addr) (cl : List (Str × Addr)) (fp : List Addr) (B : Hp), PE (X.blk s H scope (compEnvC scope cl C X.env) fp) elt (rdE (F.in' B) me fe)) ∧
      m = compM mi ((ownOf N scope).map (·.2)) t cond me ∧ fr = true := by
  split at h
  rotate_left
  · cases h
  rename_i hp
  rw [Bool.and_eq_true] at hp
  cases e1 : compI T N n sc tg iter with
  | none => rw [e1] at h; cases h
  | some mi =>
    cases e2 : compTg N scope n tg with
    | none => rw [e1, e2] at h; cases h
    | some t =>
      cases e3 : compE T N n (relS scope sc) elt with
      | none => rw [e1, e2, e3] at h; cases h
      | some me =>
        rw [e1, e2, e3] at h
        simp only at h
        split at h
        rotate_left
        · cases h
        rename_i hsl
        have hs : ∀ i ∈ tgSlots t, i ∈ (ownOf N scope).map (·.2) := fun i hi => by
          obtain ⟨q, hq, eq⟩ := List.any_eq_true.mp (List.all_eq_true.mp hsl i hi)
          exact List.mem_map.mpr ⟨q, hq, eq_of_beq eq⟩
        have hb : BlkOk X.N X.env.scope scope (ownOf N scope) := by
          rw [o.hN, o.hs]
          exact blkOk_by hp.2
        have hg : ∀ (s : Shared) (H : Hp) (C : Addr) (cl : List (Str × Addr)) (fp : List Addr), PG (X.blk s H scope (compEnvC scope cl C X.env) fp) tg (gOf X.K t) := fun s H C cl fp =>
          tg_ok (X := X.blk s H scope (compEnvC scope cl C X.env) fp) (sc := scope) o.hN o.nd (o.calm hh) (fun x hx => blk_loc hx) n tg t e2
        have he : ∀ (s : Shared) (H : Hp) (C : Addr) (cl : List (Str × Addr)) (fp : List Addr) (B : Hp), PE (X.blk s H scope (compEnvC scope cl C X.env) fp) elt (rdE (F.in' B) me.1 me.2) := fun s H C cl fp B =>
          ih.e _ _ _ _ e3 _ _ _ (o.blk hh B s H scope C cl fp)
        split at h
        · cases h
          refine ⟨mi, t, me.1, yesM, me.2, hp.1, hb, ih.i _ _ _ _ e1 _ _ _ o, hs, hg, fun s H C cl fp B => ?_, he, rfl, rfl⟩
          exact ⟨fun pins s' σ H' Q I ⟨G, ρ, O, E, q⟩ => pts_nil.run pins s' σ H' Q I (q G H' O E strf)⟩
        · rename_i c
          cases e4 : compT T N n (relS scope sc) c with
          | none => rw [e4] at h; cases h
          | some cc =>
            rw [e4] at h
            cases h
            exact ⟨mi, t, me.1, cc, me.2, hp.1, hb, ih.i _ _ _ _ e1 _ _ _ o, hs, hg, fun s H C cl fp B => pts_one (ih.t _ _ _ e4 _ _ _ (o.blk hh B s H scope C cl fp)), he, rfl, rfl⟩
        · cases h
theorem map_some {α β : Type} {x : Option α} {f : α → β} {r : β} (h : x.map f = some r) : ∃ a, x = some a ∧ f a = r := by
  cases x with
  | none => cases h
  | some a => cases h; exact ⟨a, rfl, rfl⟩
theorem hot_of {x : Str} {f : List D → Option D} (hcb : lookS x cbTab = some f) (hc : ((lookS x cbTab).isSome && !memS x quietCb) = true → T.hot = false) : T.hot = false ∨ memS x quietCb = true := by
  cases y : memS x quietCb with
  | true => exact .inr rfl
  | false => exact .inl (hc (by rw [hcb, y]; rfl))
theorem e_bad : PE X e (rdE F badM true) := ⟨fun pins s σ H Q I ⟨G, ρ, O, E, q⟩ => False.elim q⟩
theorem step_e {n : Nat} (ih : CompOk T N n) (sc : Scope) (e : Expr) (m : M D) (fr : Bool) (h : compE T N (n + 1) sc e = some (m, fr)) (F : Fx) (X : Cx) (k : Nat) (o : Xo F T N sc k X) : PE X e (rdE F m fr) := by
  have hK := o.hK
  have hu := o.hu
  have od : ∀ {e : Expr} {q : Opd}, opdOf N (compE T N n) sc e = some q → ∃ t, Op1 F X e q t := fun {e q} hq => opd_ok o (fun m fr hm => ih.e sc e m fr hm F X k o) hq
  have ods : ∀ {es : List Expr} {os : List Opd}, mapO (opdOf N (compE T N n) sc) es = some os → ∃ ts, Ops F X es os ts := fun {es os} hq => ops_of ((mapO_ok hq).2 _ fun e q _ he => od he)
  have ems : ∀ {es : List Expr} {ms : List (M D × Bool)}, mapO (compE T N n sc) es = some ms → PySem.Paired (fun e (m : M D × Bool) => PE X e (rdE F m.1 m.2)) es ms := fun {es ms} hq => (mapO_ok hq).2 _ fun e m _ he => ih.e sc e m.1 m.2 he F X k o
  simp only [compE] at h
  by_cases hq : (T.hot && needCalm e) = true
  · rw [if_pos hq] at h
    cases h
    exact e_bad
  rw [if_neg hq] at h
  have hc : needCalm e = true → T.hot = false := fun z => by
    cases y : T.hot with
    | false => rfl
    | true => exact absurd (by rw [y, z]; rfl) hq
  clear hq
  split at h
  · -- Constant
    obtain ⟨d, h1, h2⟩ := map_some h
    cases h2
    exact const_ok h1
  · -- Name
    split at h
    · rename_i i hs
      cases h
      exact e_var (slot_ok o hs)
    · split at h
      · rename_i hg
        obtain ⟨d, h1, h2⟩ := map_some h
        cases h2
        obtain ⟨g1, g2, g3⟩ := glob_ok o hg
        obtain ⟨u, v, c1, c2, c3⟩ := o.cons _ (lookS_ok h1)
        exact e_const (pe_glob g1 c1 c2 g2) (by rw [← hK]; exact c3)
      · cases h
  · -- BinOp
    split at h
    · rename_i f oa ob h1 h2 h3
      cases h
      obtain ⟨_, ha⟩ := od h2
      obtain ⟨_, hb⟩ := od h3
      exact e_bin hK h1 ha hb
    · cases h
  · obtain ⟨q, h1, h2⟩ := map_some h
    cases h2
    obtain ⟨_, ha⟩ := od h1
    exact e_neg ha
  · obtain ⟨q, h1, h2⟩ := map_some h
    cases h2
    obtain ⟨_, ha⟩ := od h1
    exact e_not hK ha
  · -- BoolOp
    rename_i op vs p
    cases e1 : mapO (compE T N n sc) vs with
    | none => rw [e1] at h; cases h
    | some ms =>
      rw [e1] at h
      exact boolV_ok hK (ems e1) h
  · -- IfExp
    split at h
    · rename_i t p q h1 h2 h3
      cases h
      have hc := ih.t _ _ _ h1 F X k o
      have ha := ih.e _ _ _ _ h2 F X k o
      have hb := ih.e _ _ _ _ h3 F X k o
      cases e1 : (p.2 && q.2) with
      | true =>
        rw [Bool.and_eq_true] at e1
        rw [e1.1] at ha
        rw [e1.2] at hb
        exact e_ite hc ha hb
      | false => exact e_ite hc (rdE_weak ha) (rdE_weak hb)
    · cases h
  · -- Compare 1
    split at h
    · rename_i hp
      split at h
      · rename_i oa ob h1 h2
        cases h
        obtain ⟨_, ha⟩ := od h1
        obtain ⟨_, hb⟩ := od h2
        exact e_cmp hK hu ha hb hp
      · cases h
    · cases h
  · -- Compare 2
    split at h
    · rename_i hp
      rw [Bool.and_eq_true] at hp
      split at h
      · rename_i oa ob oc h1 h2 h3
        cases h
        obtain ⟨_, ha⟩ := od h1
        obtain ⟨_, hb⟩ := od h2
        obtain ⟨_, hc⟩ := od h3
        exact e_chain hK hu ha hb hc hp.1 hp.2
      · cases h
    · cases h
  · -- Tuple
    split at h
    · rename_i hp
      rw [Bool.and_eq_true] at hp
      obtain ⟨ms, h1, h2⟩ := map_some h
      cases h2
      obtain ⟨ts, hops⟩ := ops_ex (ems h1)
      exact e_tup hops hp.1 (by rw [List.length_map, ← (mapO_ok h1).1]; exact of_decide_eq_true hp.2)
    · cases h
  · -- List
    split at h
    · rename_i hp
      rw [Bool.and_eq_true] at hp
      obtain ⟨ms, h1, h2⟩ := map_some h
      cases h2
      obtain ⟨ts, hops⟩ := ops_ex (ems h1)
      exact e_lst hops hp.1 (by rw [List.length_map, ← (mapO_ok h1).1]; exact of_decide_eq_true hp.2)
    · cases h
  · cases h
    exact e_dic0
  · obtain ⟨q, h1, h2⟩ := map_some h
    cases h2
    obtain ⟨_, ha⟩ := od h1
    exact e_sl0 hK ha
  · split at h
    · rename_i oa oc h1 h2
      cases h
      obtain ⟨_, ha⟩ := od h1
      obtain ⟨_, hc⟩ := od h2
      exact e_slL hK ha hc
    · cases h
  · split at h
    · rename_i oa oc h1 h2
      cases h
      obtain ⟨_, ha⟩ := od h1
      obtain ⟨_, hc⟩ := od h2
      exact e_slH hK ha hc
    · cases h
  · split at h
    · rename_i oa oc oc2 h1 h2 h3
      cases h
      obtain ⟨_, ha⟩ := od h1
      obtain ⟨_, hc⟩ := od h2
      obtain ⟨_, hc2⟩ := od h3
      exact e_slB hK ha hc hc2
    · cases h
  · -- Subscript
    split at h
    · rename_i hp
      split at h
      · rename_i oa ob h1 h2
        cases h
        obtain ⟨_, ha⟩ := od h1
        obtain ⟨_, hb⟩ := od h2
        exact e_ix hK ha hb hp
      · cases h
    · cases h
  · -- all(test for x in e)
    rename_i f p elt x px iter scope gpos pos
    split at h
    rotate_left
    · cases h
    rename_i hp
    simp only [Bool.and_eq_true] at hp
    obtain ⟨h1, h2, h3, h4, h5⟩ := hp
    split at h
    · rename_i m q q1 q2
      cases h
      exact e_gen o (hc (by rcases Bool.or_eq_true_iff.mp h1 with z | z <;> (have z' := eq_of_beq z; subst z'; rfl))) h1 (memS_ok h2) (glob_ok o h3).1 (ih.e _ _ _ _ q1 F X k o) h4 q2 h5
    · cases h
  · -- all(test of y for x, y in e)
    rename_i f p elt xa pa x px kt pt iter scope gpos pos
    split at h
    rotate_left
    · cases h
    rename_i hp
    simp only [Bool.and_eq_true] at hp
    obtain ⟨h1, h2, h3, h4, h5, h6, h7⟩ := hp
    split at h
    · rename_i m q q1 q2
      cases h
      exact e_genP o (hc (by rcases Bool.or_eq_true_iff.mp h1 with z | z <;> (have z' := eq_of_beq z; subst z'; rfl))) h1 (memS_ok h2) (glob_ok o h3).1 (ih.e _ _ _ _ q1 F X k o) h4 q2 h5 (eq_of_beq h6) (by simpa using h7)
    · cases h
  · -- sorted(x.items())
    split at h
    rotate_left
    · cases h
    rename_i hp
    simp only [Bool.and_eq_true] at hp
    obtain ⟨h1, h2, h3, h4, h5, h6⟩ := hp
    have h1' := eq_of_beq h1
    subst h1'
    have h2' := eq_of_beq h2
    subst h2'
    obtain ⟨i, h7, h8⟩ := map_some h
    cases h8
    exact e_sortItems hK (o.calm (by simpa using h3)) (slot_ok o h7) rfl (glob_ok o h5).1 (o.free _ (memS_ok h4)) h6
  · -- Call of a name
    split at h
    rotate_left
    · cases h
    rename_i hp
    rw [Bool.and_eq_true] at hp
    obtain ⟨g1, g2, g3⟩ := glob_ok o hp.1
    split at h
    · rename_i f hf
      split at h
      · rename_i hl
        obtain ⟨os, h1, h2⟩ := map_some h
        cases h2
        obtain ⟨ts, hops⟩ := ods h1
        have hm := List.mem_of_find?_eq_some hf
        have hn := List.find?_some hf
        have hn' := eq_of_beq hn
        obtain ⟨nm, ar, sem⟩ := f
        simp only at hn' hl
        subst hn'
        exact e_call o hm g1 hops hp.2 hl g2
      · cases h
    · split at h
      rotate_left
      · cases h
      rename_i hfree
      split at h
      · rename_i f e1 es hcb _ _ _
        obtain ⟨os, h1, h2⟩ := map_some h
        cases h2
        obtain ⟨ts, hops⟩ := ods h1
        exact cb_ok o (hot_of hcb hc) (lookS_ok hcb) (memS_ok hfree) g1 hops hp.2 (fun z => nomatch z) g3 g2
      · rename_i a tn p2 hcb _ _ _
        split at h
        · rename_i hx
          simp only [Bool.and_eq_true] at hx
          obtain ⟨hx1, hx2, hx3⟩ := hx
          have hx1' := eq_of_beq hx1
          subst hx1'
          split at h
          · rename_i ty q hty hq
            cases h
            obtain ⟨_, ha⟩ := od hq
            obtain ⟨t1, t2, t3⟩ := glob_ok o hx2
            obtain ⟨i1, i2⟩ := isiTy_ok hty
            have pa := hp.2
            simp only [List.all_cons, Bool.and_eq_true] at pa
            exact e_isi o (memS_ok hfree) (by decide +kernel) g1 g3 g2 (memS_ok hx3) i1 t1 t3 t2 i2 ha pa.1
          · cases h
        · cases h
      · cases h
  · -- join
    split at h
    · rename_i hp
      simp only [Bool.and_eq_true] at hp
      obtain ⟨h1, h2, h3⟩ := hp
      have h1' := eq_of_beq h1
      subst h1'
      obtain ⟨q, h4, h5⟩ := map_some h
      cases h5
      obtain ⟨_, ha⟩ := od h4
      exact e_join hK ha h2 h3
    · cases h
  · -- index
    split at h
    · rename_i hp
      simp only [Bool.and_eq_true] at hp
      obtain ⟨h1, h2, h3⟩ := hp
      split at h
      · rename_i i r h4 h5
        cases h
        rcases Bool.or_eq_true_iff.mp h1 with z | z
        · have h1' := eq_of_beq z
          subst h1'
          exact e_index hK hu (slot_ok o h4) rfl (ih.e _ _ r.1 r.2 h5 F X k o) h2 h3
        · have h1' := eq_of_beq z
          subst h1'
          exact e_count hK (slot_ok o h4) rfl (ih.e _ _ r.1 r.2 h5 F X k o) h2 h3
      · cases h
    · cases h
  · -- get
    split at h
    · rename_i hp
      simp only [Bool.and_eq_true] at hp
      obtain ⟨h1, h2, h3, h4⟩ := hp
      have h1' := eq_of_beq h1
      subst h1'
      split at h
      · rename_i i r q h5 h6 h7
        cases h
        exact e_dget hu (slot_ok o h5) rfl (ih.e _ _ r.1 r.2 h6 F X k o) (ih.e _ _ q.1 q.2 h7 F X k o) h2 h3 h4
      · cases h
    · cases h
  · -- ListComp
    obtain ⟨mi, t, me, cond, fe, h1, h2, h3, h4, h5, h6, h7, rfl, rfl⟩ := ih.lc o (hc rfl) h
    exact e_lc o (hc rfl) h3 h2 h4 h1 h5 h6 h7
  · cases h
theorem step_t {n : Nat} (ih : CompOk T N n) (sc : Scope) (e : Expr) (m : M Bool) (h : compT T N (n + 1) sc e = some m) (F : Fx) (X : Cx) (k : Nat) (o : Xo F T N sc k X) : PT X e (rdT F m) := by
  have hK := o.hK
  have hu := o.hu
  have od : ∀ {e : Expr} {q : Opd}, opdOf N (compE T N n) sc e = some q → ∃ t, Op1 F X e q t := fun {e q} hq => opd_ok o (fun m fr hm => ih.e sc e m fr hm F X k o) hq
  simp only [compT] at h
  split at h
  · split at h
    · rename_i hp
      split at h
      · rename_i oa ob h1 h2
        cases h
        obtain ⟨_, ha⟩ := od h1
        obtain ⟨_, hb⟩ := od h2
        exact t_cmp hK hu ha hb hp
      · cases h
    · cases h
  · split at h
    · rename_i hp
      rw [Bool.and_eq_true] at hp
      split at h
      · rename_i oa ob oc h1 h2 h3
        cases h
        obtain ⟨_, ha⟩ := od h1
        obtain ⟨_, hb⟩ := od h2
        obtain ⟨_, hc⟩ := od h3
        exact t_chain hK hu ha hb hc hp.1 hp.2
      · cases h
    · cases h
  · rename_i op vs p
    cases e1 : mapO (compT T N n sc) vs with
    | none => rw [e1] at h; cases h
    | some ms =>
      rw [e1] at h
      exact (boolT_ok ((mapO_ok e1).2 _ fun e m _ he => ih.t sc e m he F X k o) h).pt
  · obtain ⟨q, h1, h2⟩ := map_some h
    cases h2
    exact t_not (ih.t _ _ _ h1 F X k o)
  · split at h
    · rename_i hk
      obtain ⟨q, h1, h2⟩ := map_some h
      cases h2
      obtain ⟨_, ha⟩ := od h1
      exact t_tru hK ha hk
    · cases h
theorem step_i {n : Nat} (ih : CompOk T N n) (sc : Scope) (tg e : Expr) (m : M (List D)) (h : compI T N (n + 1) sc tg e = some m) (F : Fx) (X : Cx) (k : Nat) (o : Xo F T N sc k X) : PI X tg e (rdI F m) := by
  have hK := o.hK
  have od : ∀ {e : Expr} {q : Opd}, opdOf N (compE T N n) sc e = some q → ∃ t, Op1 F X e q t := fun {e q} hq => opd_ok o (fun m fr hm => ih.e sc e m fr hm F X k o) hq
  have sq : ∀ {e : Expr} {m : M (List D)}, (compE T N n sc e).map (fun m => seqM m.1) = some m → PI X tg e (rdI F m) := fun {e m} hq => by
    obtain ⟨q, h1, h2⟩ := map_some hq
    cases h2
    exact i_seq hK (ih.e _ _ _ _ h1 F X k o)
  simp only [compI] at h
  split at h
  · split at h
    · rename_i hp
      simp only [Bool.and_eq_true] at hp
      obtain ⟨h1, h2, h3, h4⟩ := hp
      have h1' := eq_of_beq h1
      subst h1'
      obtain ⟨q, h5, h6⟩ := map_some h
      cases h6
      obtain ⟨_, ha⟩ := od h5
      exact i_range1 o (memS_ok h2) (glob_ok o h3).1 ha h4
    · split at h
      · rename_i hp
        simp only [Bool.and_eq_true] at hp
        obtain ⟨h1, h2, h3, h4, h5⟩ := hp
        have h1' := eq_of_beq h1
        subst h1'
        split at h
        · rename_i y p2 a1 b1 c1 pos2 h4'
          split at h
          · rename_i hq
            simp only [Bool.and_eq_true] at hq
            obtain ⟨k1, k2, k3, k4, k5, k6⟩ := hq
            have k1' := eq_of_beq k1
            subst k1'
            split at h
            · rename_i oa ob oc q1 q2 q3
              cases h
              obtain ⟨_, ha⟩ := od q1
              obtain ⟨_, hb⟩ := od q2
              obtain ⟨_, hc⟩ := od q3
              cases tg <;> try cases h5
              exact i_enuR o (memS_ok h2) (memS_ok k2) (glob_ok o h3).1 (glob_ok o k3).1 ha hb hc k4 k5 k6
            · cases h
          · obtain ⟨q, h6, h7⟩ := map_some h
            cases h7
            cases tg <;> try cases h5
            exact i_enu o (memS_ok h2) (glob_ok o h3).1 (ih.e _ _ _ _ h6 F X k o) h4
        · obtain ⟨q, h6, h7⟩ := map_some h
          cases h7
          cases tg <;> try cases h5
          exact i_enu o (memS_ok h2) (glob_ok o h3).1 (ih.e _ _ _ _ h6 F X k o) h4
      · exact sq h
  · split at h
    · rename_i hp
      simp only [Bool.and_eq_true] at hp
      obtain ⟨h1, h2, h3, h4, h5⟩ := hp
      have h1' := eq_of_beq h1
      subst h1'
      split at h
      · rename_i oa ob q1 q2
        cases h
        obtain ⟨_, ha⟩ := od q1
        obtain ⟨_, hb⟩ := od q2
        exact i_range2 o (memS_ok h2) (glob_ok o h3).1 ha hb h4 h5
      · cases h
    · split at h
      · rename_i hp
        simp only [Bool.and_eq_true] at hp
        obtain ⟨h1, h2, h3, h4, h5, h6⟩ := hp
        have h1' := eq_of_beq h1
        subst h1'
        split at h
        · rename_i oa ob q1 q2
          cases h
          cases tg <;> try cases h6
          exact i_zip o (memS_ok h2) (glob_ok o h3).1 (ih.e _ _ _ _ q1 F X k o) (ih.e _ _ _ _ q2 F X k o) h4 h5
        · cases h
      · exact sq h
  · split at h
    · rename_i hp
      simp only [Bool.and_eq_true] at hp
      obtain ⟨h1, h2, h3, h4, h5, h6⟩ := hp
      have h1' := eq_of_beq h1
      subst h1'
      split at h
      · rename_i oa ob oc q1 q2 q3
        cases h
        obtain ⟨_, ha⟩ := od q1
        obtain ⟨_, hb⟩ := od q2
        obtain ⟨_, hc⟩ := od q3
        exact i_range3 o (memS_ok h2) (glob_ok o h3).1 ha hb hc h4 h5 h6
      · cases h
    · exact sq h
  · exact sq h
theorem comp_ok (T : Tab) (N : List Str) : ∀ n, CompOk T N n
  | 0 => ⟨fun _ _ _ _ h => by simp [compE] at h, fun _ _ _ h => by simp [compT] at h, fun _ _ _ _ h => by simp [compI] at h⟩
  | n + 1 => ⟨step_e (comp_ok T N n), step_t (comp_ok T N n), step_i (comp_ok T N n)⟩
end
end Dv
/-! raise, try -/
namespace Dv
open PySem L2 PyProof.Rows
section
variable {F : Fx} {T : Tab} {N : List Str} {sc : Scope} {k : Nat} {X : Cx} {e a b tg : Expr} {pos : Pos}
theorem s_raise {x y : Str} {kk : Nat} {p p1 pos2 : Pos} (o : Xo F T N sc k X) (hh : T.hot = false) (tk : L2N.Takes X F.W) (hx : x ∈ T.excs) (hg : isGlob sc x = true) (hy : (reprText y).length ≤ 1000) :
    PS X (.Raise (some (.Call (.Name x p) [.Constant (.str y) kk p1] [] pos)) none pos2) (rdS F (raiS ⟨x, [(("thing" : Str), .str y)]⟩)) := by
  obtain ⟨C, fI, T'⟩ := o.exc.txt x hx
  obtain ⟨g1, g2, _⟩ := glob_ok o hg
  refine psI (L2N.ps_raise (o.calm hh) tk (pmk_th T' (o.rm hh) hy g1 g2)) fun D σ H ⟨G, ρ, O, E, q⟩ => ?_
  intro d hd
  have q' : Xc F σ ⟨x, [(("thing" : Str), .str y)]⟩ ρ G := q σ
  refine q' (.ref C) (some d) G (upd H d _) O (E.fresh hd) srfl ?_
  show F.XR.rel _ _ _ _
  rw [o.xr]
  exact ⟨hx, C, d, y, T'.gC, rfl, rfl, upd_same, rfl⟩
theorem Er.hide {G H : Hp} {σ : L2.St} {ρ : En} {O : Nat → List Addr} (E : Er F G H σ ρ O) (i : Nat) (v : Option V) : Er F G H (σ.set i v) (ρ.set i .no) O := by
  have E1 := E.drop i
  have key : ∀ {j : Nat} {s : Sl}, (ρ.set i .no)[j]? = some s → s = .no ∨ (j ≠ i ∧ (σ.set i v)[j]? = σ[j]?) := fun {j s} z => by
    by_cases hj : j = i
    · subst hj
      by_cases hi : j < ρ.length
      · rw [List.getElem?_set_self hi] at z; cases z; exact .inl rfl
      · rw [List.getElem?_eq_none (by rw [List.length_set]; omega)] at z; cases z
    · exact .inr ⟨hj, List.getElem?_set_ne (Ne.symm hj)⟩
  refine ⟨by rw [List.length_set, List.length_set]; exact E.len, E1.g0, E1.h0, E1.gh, E1.new, fun j d z => ?_, fun j d z => ?_, E1.dis, E1.held, E1.tab⟩
  · rcases key z with e | ⟨_, e⟩
    · cases e
    · rw [e]; exact E1.val j d z
  · rcases key z with e | ⟨_, e⟩
    · cases e
    · rw [e]; exact E1.own j d z
/-- in the suite -/
theorem Xo.suite {F2 : Fx} {ax : Addr} {oe : Obj} {pn : List (Addr × Obj)} (o : Xo F T N sc k X) (hh : T.hot = false) (hK : F2.K = F.K) (hX : F2.XR = F.XR) (hW : F2.W = fun _ _ _ _ => False) (hc : PXN.CtxN oe) (hf : ∃ vs, oe.data = .fields vs) :
    Xo F2 T.heat N sc k (X.suite ax ((ax, oe) :: pn)) where
  hK := o.hK.trans hK.symm
  hN := o.hN
  hs := o.hs
  nd := o.nd
  calm := fun z => nomatch z
  room := ⟨o.room.dp, o.room.un⟩
  cold := fun z => nomatch z
  fns := fun e he => ⟨(fun z => nomatch z), fun _ => by
    obtain ⟨vs, hd⟩ := hf
    rw [hX]
    exact ⟨⟨(ax, oe), ⟨rfl, vs, hd, hc vs hd⟩, List.mem_cons_self⟩, o.hfns hh e he⟩⟩
  hfns := fun z => nomatch z
  exc := o.exc
  xr := by rw [hX]; exact o.xr
  cons := o.cons
  free := o.free
  pass := fun σ pins H s e s' I c => by
    obtain ⟨_, _, _, _, _, _, _, _, _, _, _, _, z⟩ := c
    rw [hW] at z
    exact z.elim
  code := by rw [hX]; exact o.code
abbrev noW : WX := fun _ _ _ _ => False
/-- f(e.thing, y) as it runs -/
def tTh (K : Frg) (XR : XRel) (f : Fn) (y z : Str) (ax dd : Addr) (i : Nat) : TE := tCallS (spF K XR 2 f) (fun σ => WE noW σ) (tCons (tByTh ax dd z (tVar i)) (tCons (tC (.str y)) tNil))
theorem pe_th {F2 : Fx} {ax dd C fI : Addr} {oe : Obj} {pn : List (Addr × Obj)} {g nm xn y z : Str} {i kk : Nat} {f : FnE} {p p1 p2 p3 : Pos} (o : Xo F2 T.heat N sc k (X.suite ax ((ax, oe) :: pn))) (hm : f ∈ T.heat.fns) (hn : f.name = g) (ha : f.ar = 2) (hg : isGlob sc g = true) (hi : slotIx N sc nm = some i)
    (T' : PySem.DamX.Txt X.K X.mg X.prog xn C fI) (hz : L2N.Zn (.ref C) (some dd) oe) (hf : ∃ vs, oe.data = .fields vs) :
    PE (X.suite ax ((ax, oe) :: pn)) (.Call (.Name g p) [.Attribute (.Name nm p1) "thing" p2, .Constant (.str y) kk p3] [] pos) (tTh X.K F2.XR f.sem y z ax dd i) := by
  obtain ⟨hc, fa, fd, ps, h1, h2, h3, h4⟩ := (o.fns f hm).2 rfl
  rw [hn] at h1
  rw [ha] at h4
  obtain ⟨g1, g2, _⟩ := glob_ok o hg
  refine L2H.pe_callH h4 o.room hc g1 h1 h2 h3 (fun σ pins H s e s' I c => ?_) (pa_cons (pe_byTh T' hz.zc hf (slot_ok o hi) rfl) (pa_cons pe_str pa_nil)) g2
  obtain ⟨_, _, _, _, _, _, _, _, _, _, _, _, w⟩ := c
  exact w.elim
theorem rdE_c {F2 : Fx} {d : D} {v : V} {σ : L2.St} {H : Hp} {Q : VK} (rv : ∀ G H ρ O, Rv F2 G H ρ O false v d) (q : rdE F2 (retM d) false σ H Q) : Q v H := by
  obtain ⟨G, ρ, O, E, q⟩ := q
  exact q v G H O E strf (rv _ _ _ _)
theorem th_rd (X : Cx) {F2 : Fx} {f : Fn} {y z : Str} {x : Exn} {ax dd : Addr} {i : Nat} {σ : L2.St} {H : Hp} {Q : VK} (hW : F2.W = noW) (hx : x.fs = [(("thing" : Str), D.str z)]) (hs : σ[i]? = some (some (.ref ax))) (hd : H dd = some (.xd [(("thing" : Str), .str z)]))
    (q : rdE F2 (thM f y x) true σ H Q) : tTh F2.K F2.XR f y z ax dd i σ H Q := by
  have e : thM f y x = callM f [.ex (retM (.str z)), .ex (retM (.str y))] := by
    unfold thM
    rw [hx]
    rfl
  rw [e] at q
  have c : ∀ (X : Cx) (w : Str), Op1 F2 X (.Constant (.str w) 0 ⟨0, 0, 0, 0⟩) (.ex (retM (.str w))) (rdE F2 (retM (.str w)) false) := fun X w => .ex (const_ok rfl)
  have q2 := callM_rd (X := X) (Ops.cons (c X z) (Ops.cons (c X y) .nil)) rfl q
  have q3 := rdE_c (v := .str z) (fun _ _ _ _ => rv_str) q2
  have q4 := rdE_c (v := .str y) (fun _ _ _ _ => rv_str) q3
  rw [hW] at q4
  exact ⟨_, hs, rfl, hd, q4⟩
theorem rdE_wk {F2 : Fx} {m : M D} {fr : Bool} {σ : L2.St} {H : Hp} {Q : VK} (q : rdE F2 m false σ H Q) : rdE F2 m fr σ H Q := by
  obtain ⟨G, ρ, O, E, q⟩ := q
  refine rdE_hold ⟨G, ρ, O, E, ?_⟩
  cases e1 : m ρ with
  | bad => rw [e1] at q; exact q
  | exc x ρ1 => rw [e1] at q; exact q
  | ok d ρ1 =>
    rw [e1] at q
    exact fun v G' H' O' E' s r => q v G' H' O' E' s (.inr ⟨(fun e => nomatch e), r⟩)
theorem rdE_er {F2 : Fx} {m : M D} {fr : Bool} {σ : L2.St} {H : Hp} {Q : VK} (q : rdE F2 m fr σ H Q) : ∃ G ρ O, Er F2 G H σ ρ O := by
  obtain ⟨G, ρ, O, E, _⟩ := q
  exact ⟨G, ρ, O, E⟩
/-- the suite's end, as it runs -/
structure SuOk (F : Fx) (X : Cx) (C : Addr) (i : Nat) (e : Expr) (su : Exn → M D) (fr : Bool) (te : Addr → Addr → Str → TE) : Prop where
  pe : ∀ (ax dd : Addr) (z : Str) (oe : Obj) (pn : List (Addr × Obj)), L2N.Zn (.ref C) (some dd) oe → (∃ vs, oe.data = .fields vs) → PE (X.suite ax ((ax, oe) :: pn)) e (te ax dd z)
  rd : ∀ (F2 : Fx) (ax dd : Addr) (z : Str) (x : Exn) (σ : L2.St) (H : Hp) (Q : VK), F2.K = F.K → F2.XR = F.XR → F2.W = noW → x.fs = [(("thing" : Str), D.str z)] → σ[i]? = some (some (.ref ax)) →
    (∀ G' H' ρ' O', Er F2 G' H' σ ρ' O' → H' dd = some (.xd [(("thing" : Str), .str z)])) → rdE F2 (su x) fr σ H Q → te ax dd z σ H Q
theorem thOf_ok {nm xn : Str} {su : Exn → M D} {i : Nat} {C fI : Addr} (o : Xo F T N sc k X) (hh : T.hot = false) (h : thOf T sc nm e = some su) (hi : slotIx N sc nm = some i) (T' : PySem.DamX.Txt X.K X.mg X.prog xn C fI) :
    ∃ te, SuOk F X C i e su true te := by
  have hK := o.hK
  unfold thOf at h
  split at h
  · rename_i g p n' f p1 p2 y kk p3 p4
    split at h
    · rename_i hq
      simp only [Bool.and_eq_true] at hq
      obtain ⟨h1, h2, h3⟩ := hq
      have h1' := eq_of_beq h1
      have h2' := eq_of_beq h2
      subst h1'
      subst h2'
      split at h
      · rename_i fe hf
        split at h
        · rename_i ha
          cases h
          have hm : fe ∈ T.heat.fns := List.mem_of_find?_eq_some hf
          have hn : fe.name = g := eq_of_beq (List.find?_some (p := fun e : FnE => e.name == g) hf)
          refine ⟨fun ax dd z => tTh X.K F.XR fe.sem y z ax dd i, fun ax dd z oe pn hz hd => ?_, fun F2 ax dd z x σ H Q e1 e2 e3 hx hs hdd q => ?_⟩
          · have o2 : Xo { F with W := noW } T.heat N sc k (X.suite ax ((ax, oe) :: pn)) := o.suite hh rfl rfl rfl hz.2.2 hd
            exact pe_th (F2 := { F with W := noW }) o2 hm hn ha h3 hi T' hz hd
          · obtain ⟨G, ρ, O, E⟩ := rdE_er q
            have := th_rd X e3 hx hs (hdd _ _ _ _ E) q
            rw [e1, e2, ← hK] at this
            exact this
        · cases h
      · cases h
    · cases h
  · cases h
theorem suOf_ok {n : Nat} {nm xn : Str} {su : (Exn → M D) × Bool} {i : Nat} {C fI : Addr} (o : Xo F T N sc k X) (hh : T.hot = false) (h : suOf T N sc n nm e = some su) (hi : slotIx N sc nm = some i) (T' : PySem.DamX.Txt X.K X.mg X.prog xn C fI) :
    ∃ te, SuOk F X C i e su.1 su.2 te := by
  have hK := o.hK
  unfold suOf at h
  split at h
  · rename_i a b p
    split at h
    · rename_i r t h1 h2
      cases h
      obtain ⟨te, S⟩ := thOf_ok o hh h2 hi T'
      refine ⟨fun ax dd z σ H Q => ∃ F2 : Fx, F2.K = F.K ∧ F2.XR = F.XR ∧ F2.W = noW ∧ tAndT X.K (rdE F2 r.1 r.2) (te ax dd z) σ H Q, fun ax dd z oe pn hz hd => ⟨fun pins s σ H Q I ⟨F2, e1, e2, e3, q⟩ => ?_⟩, fun F2 ax dd z x σ H Q e1 e2 e3 hx hs hdd q => ⟨F2, e1, e2, e3, ?_⟩⟩
      · have o2 : Xo F2 T.heat N sc k (X.suite ax ((ax, oe) :: pn)) := o.suite hh e1 e2 e3 hz.2.2 hd
        exact (pe_andT ((comp_ok T.heat N n).e sc a r.1 r.2 h1 F2 _ k o2) (pe_one (S.pe ax dd z oe pn hz hd))).run pins s σ H Q I q
      · refine rdE_bind (fr' := r.2) (f := fun d ρ' => match truD d with | some true => t x ρ' | some false => .ok d ρ' | none => .bad) q fun v d G' H' ρ' O' E' rr q' => ?_
        cases e4 : truD d with
        | none => rw [e4] at q'; exact q'.elim
        | some c =>
          rw [e4] at q'
          refine ⟨c, ?_, ?_⟩
          · rw [hK, ← e1]
            exact tru_vw E'.gh (.inl rr) e4
          · cases c with
            | true => exact S.rd F2 ax dd z x σ H' Q e1 e2 e3 hx hs hdd (rdE_wk ⟨G', ρ', O', E', q'⟩)
            | false => exact q' v G' H' O' E' strf (.inr ⟨(fun e => nomatch e), rr⟩)
    · cases h
  · obtain ⟨t, h1, h2⟩ := map_some h
    subst h2
    exact thOf_ok o hh h1 hi T'
theorem er_W {W : WX} {G H : Hp} {σ : L2.St} {ρ : En} {O : Nat → List Addr} (E : Er F G H σ ρ O) : Er { F with W := W } G H σ ρ O :=
  ⟨E.len, E.g0, E.h0, E.gh, E.new, E.val, E.own, E.dis, E.held, ⟨E.tab.gt, E.tab.bt, E.tab.tb⟩⟩
theorem er_W' {W : WX} {G H : Hp} {σ : L2.St} {ρ : En} {O : Nat → List Addr} (E : Er { F with W := W } G H σ ρ O) : Er F G H σ ρ O :=
  ⟨E.len, E.g0, E.h0, E.gh, E.new, E.val, E.own, E.dis, E.held, ⟨E.tab.gt, E.tab.bt, E.tab.tb⟩⟩
open Classical in
/-- the suite's Fx: the error's dict is held -/
noncomputable def fxS (F : Fx) (G : Hp) (d : Addr) (o : HO) : Fx := { F with W := noW, G0 := G, B := if G d = none then upd F.B d o else F.B }
theorem fxS_B {G : Hp} {d : Addr} {o : HO} (h : G d = none) : (fxS F G d o).B = upd F.B d o := if_pos h
theorem fxS_B' {G : Hp} {d : Addr} {o : HO} (h : ¬ G d = none) : (fxS F G d o).B = F.B := if_neg h
theorem er_in {G H : Hp} {σ : L2.St} {ρ : En} {O : Nat → List Addr} {d : Addr} {fs : List (Str × V)} (E : Er F G H σ ρ O) (hd : H d = some (.xd fs)) : Er (fxS F G d (.xd fs)) G H σ ρ O := by
  refine ⟨E.len, srfl, E.h0, E.gh, (fun a o e n => by
    rw [show G a = none from n] at e
    cases e), E.val, E.own, E.dis, fun a o e => ?_, ⟨E.tab.gt, fun a ps e => ?_, E.tab.tb⟩⟩
  · by_cases hg : G d = none
    · rw [fxS_B hg] at e
      by_cases ha : a = d
      · subst ha
        rw [upd_same] at e
        cases e
        refine ⟨hd, hg, fun j dd z hm => ?_⟩
        obtain ⟨p, o', _, h2, h3, _, _, h6⟩ := E.own j dd z
        rw [h2] at hm
        have : a = p := by simpa using hm
        subst this
        rw [hd] at h3
        cases h3
        cases h6
      · rw [upd_ne ha] at e
        exact E.held a o e
    · rw [fxS_B' hg] at e
      exact E.held a o e
  · by_cases hg : G d = none
    · rw [fxS_B hg] at e
      by_cases ha : a = d
      · subst ha
        rw [upd_same] at e
        cases e
      · rw [upd_ne ha] at e
        exact E.tab.bt a ps e
    · rw [fxS_B' hg] at e
      exact E.tab.bt a ps e
theorem er_dd {G G2 H H2 : Hp} {σ : L2.St} {ρ : En} {O : Nat → List Addr} {d : Addr} {fs : List (Str × V)} (gh : Same G H) (hd : H d = some (.xd fs)) (E : Er (fxS F G d (.xd fs)) G2 H2 σ ρ O) : H2 d = some (.xd fs) := by
  by_cases hg : G d = none
  · exact (E.held d (.xd fs) (by rw [fxS_B hg, upd_same])).1
  · cases z : G d with
    | none => exact absurd z hg
    | some o =>
      have := gh d o z
      rw [hd] at this
      cases this
      exact E.gh d _ (E.g0 d _ z)
theorem bS {G H : Hp} {σ : L2.St} {ρ : En} {O : Nat → List Addr} {d : Addr} {fs : List (Str × V)} (E : Er F G H σ ρ O) (hd : H d = some (.xd fs)) {a : Addr} {o : HO} (e : F.B a = some o) : (fxS F G d (.xd fs)).B a = some o := by
  by_cases hg : G d = none
  · rw [fxS_B hg]
    by_cases ha : a = d
    · subst ha
      rw [upd_same]
      have := (E.held a o e).1
      rw [hd] at this
      exact this
    · rw [upd_ne ha]
      exact e
  · rw [fxS_B' hg]
    exact e
theorem er_out {G G2 H H2 : Hp} {σ σ2 : L2.St} {ρ ρ2 : En} {O O2 : Nat → List Addr} {d : Addr} {fs : List (Str × V)} (E : Er F G H σ ρ O) (hd : H d = some (.xd fs)) (E2 : Er (fxS F G d (.xd fs)) G2 H2 σ2 ρ2 O2) : Er F G2 H2 σ2 ρ2 O2 := by
  refine ⟨E2.len, E.g0.trans E2.g0, E2.h0, E2.gh, fun a o e n => ?_, E2.val, E2.own, E2.dis, fun a o e => E2.held a o (bS E hd e), ⟨E2.tab.gt, E.tab.bt, E2.tab.tb⟩⟩
  cases z : G a with
  | none => exact E2.new a o e z
  | some o' => exact E.new a o' z n
theorem rv_out {G G2 H H2 : Hp} {σ : L2.St} {ρ ρ2 : En} {O O2 : Nat → List Addr} {d : Addr} {fs : List (Str × V)} {fr : Bool} {v : V} {dd : D} (E : Er F G H σ ρ O) (hd : H d = some (.xd fs)) (r : Rv (fxS F G d (.xd fs)) G2 H2 ρ2 O2 fr v dd) : Rv F G2 H2 ρ2 O2 fr v dd := by
  rcases r with ⟨p, o, h1, h2, h3, h4, h5, h6, h7, h8⟩ | r
  · refine .inl ⟨p, o, h1, h2, h3, h4, h5, ?_, h7, h8⟩
    cases z : F.B p with
    | none => rfl
    | some u =>
      rw [bS E hd z] at h6
      cases h6
  · exact .inr r
theorem s_try {h nm : Str} {i : Nat} {b : S} {su : Exn → M D} {fr : Bool} {body : List Stmt} {np rp pos' : Pos} (o : Xo F T N sc k X) (hh : T.hot = false) (tk : L2N.Takes X F.W) (st : X.stack = X.env :: X.outer) (hfr : X.env.frame = some X.env.locals)
    (hx : h ∈ T.excs) (hg : isGlob sc h = true) (hl : isLoc sc nm = true) (hi : slotIx N sc nm = some i) (hN : N[i]? = some nm) (hS : ∀ (C fI : Addr), PySem.DamX.Txt X.K X.mg X.prog h C fI → ∃ te, SuOk F X C i e su fr te)
    (hb : ∀ (W : WX) (pn : List (Addr × Obj)) (xe : Value → Shared → Prop), L2N.Takes (X.tr pn xe) W → PassesOwn (model X.prog X.w) X.A X.env xe → PSs (X.tr pn xe) body (rdS { F with W := W } b)) :
    PS X (.Try body [.ExceptHandler (some (.Name h np)) (some nm) [.Return (some e) rp] pos'] [] [] pos) (rdS F (tryS h b i su fr)) := by
  obtain ⟨C, fI, T'⟩ := o.exc.txt h hx
  obtain ⟨te, S⟩ := hS C fI T'
  obtain ⟨g1, g2, _⟩ := glob_ok o hg
  have hln : X.env.kindOf nm = some .local := by
    show X.env.scope.names.lookup nm = _
    rw [o.hs]
    unfold isLoc at hl
    split at hl
    · rename_i z; exact z
    · cases hl
  refine psI (L2N.ps_try_as (i := i) (c := .ref C) (tb := fun W => rdS { F with W := W } b) (ts := fun ax cls d => fun D σ H => ∃ dd z, cls = .ref C ∧ d = some dd ∧ te ax dd z σ H D.rt) st hfr (by rw [o.hN]; exact o.nd) (by rw [o.hN]; exact hN) hln ⟨g1, g2, .inl T'.gC⟩ tk hb
    (fun ax oe cls d pn hz hf => ⟨fun pins s σ H D I ⟨dd, z, e1, e2, q⟩ => ?_⟩)) fun D σ H ⟨G, ρ, O, E, q⟩ => ⟨G, ρ, O, er_W E, ?_⟩
  · subst e1
    subst e2
    exact (pss_one (ps_ret (S.pe ax dd z oe pn hz hf))).run pins s σ H D I q
  · unfold tryS at q
    cases e1 : b ρ with
    | bad => rw [e1] at q; exact q
    | ok f ρ1 =>
      rw [e1] at q
      cases f with
      | nx => exact fun σ' G' H' O' E' s => q σ' G' H' O' (er_W' E') s
      | bk => exact fun σ' G' H' O' E' s => q σ' G' H' O' (er_W' E') s
      | ct => exact fun σ' G' H' O' E' s => q σ' G' H' O' (er_W' E') s
      | ret d => exact fun v σ' G' H' O' E' s r => q v σ' G' H' O' (er_W' E') s r
    | exc x ρ1 =>
      rw [e1] at q
      intro σ' c dx G' H' O' E'0 s xr
      have E' := er_W' E'0
      have xr2 : ExcR X.mg T.excs x c dx H' := by rw [← o.xr]; exact xr
      obtain ⟨hm, C1, d, y, hC1, rfl, rfl, hd, hfs⟩ := xr2
      refine ⟨decide (x.cls = h), by rw [o.hK] ; rw [← o.hK]; exact o.exc.exm _ hm _ hx _ _ hC1 T'.gC, fun hbb ax na => ?_, fun hbb => ?_⟩
      · have hc : x.cls = h := of_decide_eq_true hbb
        simp only [hc, if_true] at q
        have hCC : C1 = C := by
          rw [hc, T'.gC] at hC1
          cases hC1
          rfl
        split at q
        rotate_left
        · exact q.elim
        rename_i hlen
        refine ⟨d, y, by rw [hCC], rfl, ?_⟩
        have hsl : (σ'.set i (some (.ref ax)))[i]? = some (some (.ref ax)) := List.getElem?_set_self (by rw [← E'.len]; exact hlen)
        have E3 := E'.hide i (some (.ref ax))
        have E2 := er_in E3 hd
        refine S.rd (fxS F G' d (.xd [(("thing" : Str), .str y)])) ax d y x _ H' D.rt rfl rfl rfl hfs hsl (fun G2 H2 ρ2 O2 Ex => er_dd E'.gh hd Ex) ⟨G', _, O', E2, ?_⟩
        unfold retS okM at q
        cases e5 : su x (ρ1.set i .no) with
        | bad => rw [e5] at q; exact q.elim
        | exc y2 ρ2 => rw [e5] at q; exact q.elim
        | ok dr ρ2 =>
          rw [e5] at q
          simp only [Dv.R.bind_ok] at q
          intro v G2 H2 O2 Ex sx rx
          split at q
          · exact q.elim
          · rename_i hn
            refine q v _ G2 H2 O2 (er_out E3 hd Ex) (s.trans sx.g) ?_
            have r1 := rv_out E3 hd rx
            cases fr with
            | true => exact r1
            | false =>
              rcases r1 with ⟨p, o', z, _⟩ | ⟨_, r1⟩
              · cases z
              · refine .inr ⟨fun _ => ?_, r1⟩
                cases z : isMut dr with
                | false => rfl
                | true => exact absurd ⟨rfl, z⟩ hn
      · have hc : ¬ x.cls = h := of_decide_eq_false hbb
        simp only [hc, if_false] at q
        exact q σ' (.ref C1) (some d) G' H' O' E' s (by show F.XR.rel _ _ _ _; rw [o.xr]; exact ⟨hm, C1, d, y, hC1, rfl, rfl, hd, hfs⟩)
end
end Dv
namespace Dv
open PySem L2 PyProof.Rows
theorem swapQ_ok {ts vs : List Expr} {kt k2 : Nat} {pt pt2 : Pos} {env : PySem.Env} {r : Option (List Str)} (h : swapQ ts vs env.scope = some r) : swappedStores [.Tuple ts kt pt] (.Tuple vs k2 pt2) env = pure r := by
  unfold swapQ at h
  show (if swBad ts vs env.scope = true then pure none else if swStar vs = true then pure none
    else if ((swNm ts env.scope).length != ts.length || (swNm ts env.scope).eraseDups.length != (swNm ts env.scope).length) = true then pure none
    else if vs.all (foldedForSure 8) = true then pure none
    else if vs.all (constantsAlone 8) = true then (unsupported "assign.tuple-of-constant-expressions:order-of-the-stores" >>= fun _ => pure (some (swNm ts env.scope)) : Sem (Option (List Str)))
    else pure (some (swNm ts env.scope))) = _
  by_cases c1 : swBad ts vs env.scope = true
  · rw [if_pos c1] at h ⊢; cases h; rfl
  rw [if_neg c1] at h ⊢
  by_cases c2 : swStar vs = true
  · rw [if_pos c2] at h ⊢; cases h; rfl
  rw [if_neg c2] at h ⊢
  by_cases c3 : ((swNm ts env.scope).length != ts.length || (swNm ts env.scope).eraseDups.length != (swNm ts env.scope).length) = true
  · rw [if_pos c3] at h ⊢; cases h; rfl
  rw [if_neg c3] at h ⊢
  by_cases c4 : vs.all (foldedForSure 8) = true
  · rw [if_pos c4] at h ⊢; cases h; rfl
  rw [if_neg c4] at h ⊢
  by_cases c5 : vs.all (constantsAlone 8) = true
  · rw [if_pos c5] at h; cases h
  rw [if_neg c5] at h ⊢
  cases h; rfl
theorem swapQ_names {ts vs : List Expr} {sc : Scope} {ns : List Str} (h : swapQ ts vs sc = some (some ns)) : swNm ts sc = ns ∧ ns.length = ts.length := by
  unfold swapQ at h
  by_cases c1 : swBad ts vs sc = true
  · rw [if_pos c1] at h; cases h
  rw [if_neg c1] at h
  by_cases c2 : swStar vs = true
  · rw [if_pos c2] at h; cases h
  rw [if_neg c2] at h
  by_cases c3 : ((swNm ts sc).length != ts.length || (swNm ts sc).eraseDups.length != (swNm ts sc).length) = true
  · rw [if_pos c3] at h; cases h
  rw [if_neg c3] at h
  by_cases c4 : vs.all (foldedForSure 8) = true
  · rw [if_pos c4] at h; cases h
  rw [if_neg c4] at h
  by_cases c5 : vs.all (constantsAlone 8) = true
  · rw [if_pos c5] at h; cases h
  rw [if_neg c5] at h
  cases h
  simp only [Bool.or_eq_true, bne_iff_ne, ne_eq, not_or, Decidable.not_not] at c3
  exact ⟨rfl, c3.1⟩
theorem swapQ2 {x y : Str} {px py : Pos} {vs : List Expr} {sc : Scope} {ns : List Str} (h : swapQ [.Name x px, .Name y py] vs sc = some (some ns)) : ns = [x, y] ∧ sc.names.lookup x = some .local ∧ sc.names.lookup y = some .local := by
  obtain ⟨e, l⟩ := swapQ_names h
  unfold swNm at e
  simp only [List.filterMap_cons, List.filterMap_nil] at e
  cases c1 : (sc.names.lookup x == some .local && px.line == (Option.map (fun e : Expr => e.pos.line) [Expr.Name x px, .Name y py].head?).getD 0) with
  | false =>
    rw [c1] at e
    simp only [Bool.false_eq_true, if_false] at e
    rw [← e] at l
    split at l <;> simp at l
  | true =>
    cases c2 : (sc.names.lookup y == some .local && py.line == (Option.map (fun e : Expr => e.pos.line) [Expr.Name x px, .Name y py].head?).getD 0) with
    | false =>
      rw [c1, c2] at e
      simp only [Bool.false_eq_true, if_false, if_true] at e
      rw [← e] at l
      simp at l
    | true =>
      rw [c1, c2] at e
      simp only [if_true] at e
      rw [Bool.and_eq_true] at c1 c2
      exact ⟨e.symm, eq_of_beq c1.1, eq_of_beq c2.1⟩
theorem swapQ3 {x y z : Str} {px py pz : Pos} {vs : List Expr} {sc : Scope} {ns : List Str} (h : swapQ [.Name x px, .Name y py, .Name z pz] vs sc = some (some ns)) : ns = [x, y, z] ∧ sc.names.lookup x = some .local ∧ sc.names.lookup y = some .local ∧ sc.names.lookup z = some .local := by
  obtain ⟨e, l⟩ := swapQ_names h
  unfold swNm at e
  simp only [List.filterMap_cons, List.filterMap_nil] at e
  generalize (Option.map (fun e : Expr => e.pos.line) [Expr.Name x px, .Name y py, .Name z pz].head?).getD 0 = ln at e
  cases c1 : (sc.names.lookup x == some .local && px.line == ln) with
  | false =>
    rw [c1] at e
    simp only [Bool.false_eq_true, if_false] at e
    rw [← e] at l
    split at l <;> split at l <;> simp at l
  | true =>
    cases c2 : (sc.names.lookup y == some .local && py.line == ln) with
    | false =>
      rw [c1, c2] at e
      simp only [Bool.false_eq_true, if_false, if_true] at e
      rw [← e] at l
      split at l <;> simp at l
    | true =>
      cases c3 : (sc.names.lookup z == some .local && pz.line == ln) with
      | false =>
        rw [c1, c2, c3] at e
        simp only [Bool.false_eq_true, if_false, if_true] at e
        rw [← e] at l
        simp at l
      | true =>
        rw [c1, c2, c3] at e
        simp only [if_true] at e
        rw [Bool.and_eq_true] at c1 c2 c3
        exact ⟨e.symm, eq_of_beq c1.1, eq_of_beq c2.1, eq_of_beq c3.1⟩
section
variable {F : Fx} {T : Tab} {N : List Str} {sc : Scope} {k : Nat} {X : Cx} {e a b tg : Expr} {pos : Pos}
/-- a def's own level -/
structure Xd (F : Fx) (T : Tab) (N : List Str) (sc : Scope) (k : Nat) (X : Cx) : Prop where
  o : Xo F T N sc k X
  os : ∀ B, Xo (F.asd B) T N sc k X
  fn : ∀ x, X.fn x = true
  own : PassesOwn (model X.prog X.w) X.A X.env X.xe
  tk : L2N.Takes X F.W
  st : X.stack = X.env :: X.outer
  fr : X.env.frame = some X.env.locals
theorem Xd.loc (d : Xd F T N sc k X) : ∀ x, (sc.names.lookup x = some .local ∨ sc.names.lookup x = some .cell) → Loc X.env.scope x ∧ (X.fn x = true ∨ X.env.scope.names.lookup x = some .local) := fun x h => by
  refine ⟨?_, .inl (d.fn x)⟩
  rw [d.o.hs]
  rcases h with h | h
  · exact .inl h
  · exact .inr h
theorem Xo.tr {F2 : Fx} {pn : List (Addr × Obj)} {xe : Value → Shared → Prop} (o : Xo F T N sc k X) (hh : T.hot = false) (hK : F2.K = F.K) (hX : F2.XR = F.XR) (tk : L2N.Takes (X.tr pn xe) F2.W) : Xo F2 T N sc k (X.tr pn xe) where
  hK := o.hK.trans hK.symm
  hN := o.hN
  hs := o.hs
  nd := o.nd
  calm := o.calm
  room := o.room
  cold := o.cold
  fns := fun e he => ⟨fun _ => by rw [hX]; exact (o.fns e he).1 hh, fun z => by rw [hh] at z; cases z⟩
  hfns := by rw [hX]; exact o.hfns
  exc := o.exc
  xr := by rw [hX]; exact o.xr
  cons := o.cons
  free := o.free
  pass := fun σ => L2N.passAt tk σ
  code := by rw [hX]; exact o.code
theorem Xd.tr {W : WX} {pn : List (Addr × Obj)} {xe : Value → Shared → Prop} (d : Xd F T N sc k X) (hh : T.hot = false) (tk : L2N.Takes (X.tr pn xe) W) (own : PassesOwn (model X.prog X.w) X.A X.env xe) : Xd { F with W := W } T N sc k (X.tr pn xe) :=
  ⟨d.o.tr hh rfl rfl tk, fun B => d.o.tr hh rfl rfl tk, d.fn, own, tk, d.st, d.fr⟩
theorem locIx_ok {x : Str} {i : Nat} (h : locIx N sc x = some i) : N[i]? = some x ∧ (sc.names.lookup x = some .local ∨ sc.names.lookup x = some .cell) := by
  unfold locIx at h
  split at h
  · rename_i hl
    exact ⟨ix0 h, .inl hl⟩
  · rename_i hl
    exact ⟨ix0 h, .inr hl⟩
  · cases h
theorem swap_cell {e : Expr} {x : Str} {p : Pos} {l : Nat} {env : PySem.Env} (h : env.scope.names.lookup x = some .cell) : swapsWith e (some (.Name x p)) l env = pure false := by
  have hk : env.kindOf x = some .cell := h
  have e1 : (some NameKind.cell == some NameKind.local) = false := by decide
  cases e <;> first
    | rfl
    | (unfold swapsWith
       simp only [hk, e1, Bool.and_false, Bool.false_and]
       try rfl)
theorem lcSwap_ok {elt tg iter : Expr} {ifs : List Expr} {scope : Scope} {lpos p' : Pos} {x : Str} {l : Nat} {env : PySem.Env} (hs : env.scope = sc) (h : lcSwap sc x p' (.ListComp elt [⟨tg, iter, ifs, 0⟩] scope lpos) = true) : sc.names.lookup x = some .local ∧ swapsWith (.ListComp elt [⟨tg, iter, ifs, 0⟩] scope lpos) (some (.Name x p')) l env = pure true := by
  simp only [lcSwap, Bool.and_eq_true] at h
  obtain ⟨h1, h2, h3, h4⟩ := h
  have hl : sc.names.lookup x = some .local := by
    split at h2
    · rename_i z; exact z
    · cases h2
  have hk : sc.kind = .function := by
    split at h1
    · rename_i z; exact z
    · cases h1
  exact ⟨hl, sw_true (by rw [hs]; exact hk) (by rw [hs]; exact hl) h3 (by simpa using h4)⟩
theorem s_asgLc {n : Nat} {i : Nat} {x : Str} {p' : Pos} {elt iter : Expr} {ifs : List Expr} {scope : Scope} {lpos : Pos} {r : M D × Bool} (d : Xd F T N sc k X) (hh : T.hot = false) (hi : N[i]? = some x) (h : compE T N n sc (.ListComp elt [⟨tg, iter, ifs, 0⟩] scope lpos) = some r) (hsw : lcSwap sc x p' (.ListComp elt [⟨tg, iter, ifs, 0⟩] scope lpos) = true) :
    PS X (.Assign [.Name x p'] (.ListComp elt [⟨tg, iter, ifs, 0⟩] scope lpos) pos) (rdS F (asgS i r.1 r.2)) := by
  cases n with
  | zero => simp [compE] at h
  | succ n =>
    obtain ⟨r1, r2⟩ := r
    simp only [compE, hh, Bool.false_and, Bool.false_eq_true, if_false] at h
    obtain ⟨mi, t, me, cond, fe, h1, h2, h3, h4, h5, h6, h7, rfl, rfl⟩ := (comp_ok T N n).lc d.o hh h
    obtain ⟨hl, sw⟩ := lcSwap_ok d.o.hs hsw
    have nd : X.N.Nodup := by rw [d.o.hN]; exact d.o.nd
    refine psI (ps_setLc (g := gOf X.K t) (tt := fun σ H Q => ∃ B, rdT (F.in' B) cond σ H Q) (te := fun σ H Q => ∃ B, rdE (F.in' B) me fe σ H Q) (d.o.calm hh) nd (by rw [d.o.hN]; exact hi) (by rw [d.o.hs]; exact hl) sw h3 h2 h5 (fun s H C cl fp => ⟨fun pins s' σ H' Q I ⟨B, q⟩ => (h6 s H C cl fp B).run pins s' σ H' Q I q⟩) (fun s H C cl fp => ⟨fun pins s' σ H' Q I ⟨B, q⟩ => (h7 s H C cl fp B).run pins s' σ H' Q I q⟩) ?_) fun D σ H ⟨G, ρ, O, E, q⟩ => ?_
    · intro x
      cases iter <;> first | rfl | cases h1
    · rw [d.o.hK]
      show tLc _ _ _ _ _ σ H (fun x H1 => gName i x σ H1 D.nx)
      refine lc_rd h4 ?_
      refine rdE_stmt E q fun v d ρ1 G1 H1 O1 E1 s1 r1 q1 => ?_
      obtain ⟨O', E'⟩ := E1.put i r1
      exact q1 _ G1 H1 O' E' srfl
theorem ss_blk {ss : List Stmt} {ms : List S} (h : PySem.Paired (fun st m => PS X st (rdS F m)) ss ms) : PSs X ss (rdS F (blkS ms)) := by
  induction h with
  | nil => exact ss_nil
  | cons p q ih =>
    cases q with
    | nil => exact ss_one p
    | cons p2 q2 => exact ss_cons p ih
theorem lc_gen {x : Str} {p' : Pos} (h : lcSwap sc x p' e = true) : ∃ elt tg iter ifs scope lpos, e = .ListComp elt [⟨tg, iter, ifs, 0⟩] scope lpos := by
  unfold lcSwap at h
  split at h
  · exact ⟨_, _, _, _, _, _, rfl⟩
  · cases h
theorem compR_ok {n : Nat} {s : S} (o : Xo F T N sc k X) (h : compR T N sc n e = some s) : RetOk F X e s := by
  have ce : ∀ {e : Expr} {r : M D × Bool}, compE T N n sc e = some r → PE X e (rdE F r.1 r.2) := fun {e r} hq => (comp_ok T N n).e sc e r.1 r.2 hq F X k o
  unfold compR at h
  split at h
  · split at h
    · rename_i i hi
      cases h
      exact ret_var (slot_ok o hi)
    · obtain ⟨r, h1, h2⟩ := map_some h
      cases h2
      exact ret_plain (ce h1)
  · obtain ⟨r, h1, h2⟩ := map_some h
    cases h2
    exact ret_plain (ce h1)
theorem s_bad {st : Stmt} : PS X st (rdS F badS) := ⟨fun pins s σ H D I ⟨G, ρ, O, E, q⟩ => False.elim q⟩
theorem step_s (n : Nat) (ih : ∀ st s, compS T N sc n st = some s → ∀ (F : Fx) (X : Cx) (k : Nat), Xd F T N sc k X → PS X st (rdS F s)) (st : Stmt) (s : S) (h : compS T N sc (n + 1) st = some s) (F : Fx) (X : Cx) (k : Nat) (d : Xd F T N sc k X) : PS X st (rdS F s) := by
  have o := d.o
  have hK := o.hK
  have hu := o.hu
  have nd : X.N.Nodup := by rw [o.hN]; exact o.nd
  have ce : ∀ {e : Expr} {r : M D × Bool}, compE T N n sc e = some r → PE X e (rdE F r.1 r.2) := fun {e r} hq => (comp_ok T N n).e sc e r.1 r.2 hq F X k o
  have ceB : ∀ {e : Expr} {r : M D × Bool}, compE T N n sc e = some r → ∀ B, PE X e (rdE (F.asd B) r.1 r.2) := fun {e r} hq B => (comp_ok T N n).e sc e r.1 r.2 hq _ X k (d.os B)
  have ct : ∀ {e : Expr} {m : M Bool}, compT T N n sc e = some m → PT X e (rdT F m) := fun {e m} hq => (comp_ok T N n).t sc e m hq F X k o
  have ci : ∀ {tg e : Expr} {m : M (List D)}, compI T N n sc tg e = some m → PI X tg e (rdI F m) := fun {tg e m} hq => (comp_ok T N n).i sc tg e m hq F X k o
  have cg : T.hot = false → ∀ {e : Expr} {t : Tg}, compTg N sc n e = some t → PG X e (gOf X.K t) := fun hh {e t} hq => tg_ok o.hN o.nd (o.calm hh) d.loc n e t hq
  have od : ∀ {e : Expr} {q : Opd}, opdOf N (compE T N n) sc e = some q → ∃ t, Op1 F X e q t := fun {e q} hq => opd_ok o (fun m fr hm => ce (r := (m, fr)) hm) hq
  have blk : ∀ {ss : List Stmt} {ms : List S}, mapO (compS T N sc n) ss = some ms → PSs X ss (rdS F (blkS ms)) := fun {ss ms} hq => ss_blk ((mapO_ok hq).2 _ fun st m _ he => ih st m he F X k d)
  have sw : ∀ {ts vs : List Expr} {kt k2 : Nat} {pt pt2 : Pos} {r : Option (List Str)}, swapQ ts vs sc = some r → swappedStores [.Tuple ts kt pt] (.Tuple vs k2 pt2) X.env = pure r := fun hq => swapQ_ok (by rw [o.hs]; exact hq)
  have un : T.hot = false → ∀ {es : List Expr} {kt : Nat} {pt : Pos} {e : Expr} {t : Tg} {r : M D × Bool} {pos : Pos}, compTg N sc n (.Tuple es kt pt) = some t → compE T N n sc e = some r → swappedStores [.Tuple es kt pt] e X.env = pure none → PS X (.Assign [.Tuple es kt pt] e pos) (rdS F (untS t r.1)) := fun hh {es kt pt e t r pos} h1 h2 h3 => by
    refine s_unt hK (cg hh h1) (ce h2) swap_tup h3 ?_
    cases n with
    | zero => simp [compTg] at h1
    | succ n =>
      simp only [compTg] at h1
      split at h1
      · rename_i hp
        unfold tgPlain
        simpa using hp
      · cases h1
  simp only [compS] at h
  by_cases hq : (T.hot && stCalm st) = true
  · rw [if_pos hq] at h
    cases h
    exact s_bad
  rw [if_neg hq] at h
  have hcalm : stCalm st = true → T.hot = false := fun z => by
    cases y : T.hot with
    | false => rfl
    | true => exact absurd (by rw [y, z]; rfl) hq
  clear hq
  split at h
  · cases h; exact s_retN
  · split at h
    · split at h
      · rename_i i hi
        cases h
        exact s_retV (slot_ok o hi)
      · obtain ⟨r, h1, h2⟩ := map_some h
        cases h2
        exact s_ret (ce h1)
    · split at h
      · split at h
        · rename_i t s1 s2 h1 h2 h3
          cases h
          exact s_retG (ret_ite (ct h1) (compR_ok o h2) (compR_ok o h3))
        · cases h
      · obtain ⟨r, h1, h2⟩ := map_some h
        cases h2
        exact s_ret (ce h1)
    · obtain ⟨r, h1, h2⟩ := map_some h
      cases h2
      exact s_ret (ce h1)
  · rename_i x p' e p2
    split at h
    · rename_i i r h1 h2
      obtain ⟨l1, l2⟩ := locIx_ok h1
      obtain ⟨g1, g2⟩ := d.loc _ l2
      split at h
      · cases h
      · rename_i hc
        cases h
        cases q : isComp e with
        | false => exact s_asg nd (by rw [o.hN]; exact l1) g1 (ce h2) (swap_nc q) g2
        | true =>
          cases qc : isCell sc x with
          | true =>
            have hcell : X.env.scope.names.lookup x = some .cell := by
              rw [o.hs]
              unfold isCell at qc
              split at qc
              · rename_i z; exact z
              · cases qc
            exact s_asg nd (by rw [o.hN]; exact l1) g1 (ce h2) (swap_cell hcell) g2
          | false =>
          have hsw : lcSwap sc x p' e = true := by
            rw [q, qc] at hc
            simpa using hc
          obtain ⟨elt, tg, iter, ifs, scope, lpos, rfl⟩ := lc_gen hsw
          exact s_asgLc d (hcalm rfl) l1 h2 hsw
    · cases h
  · -- two
    split at h
    · rename_i ns hq
      obtain ⟨rfl, hx, hy⟩ := swapQ2 hq
      split at h
      · rename_i hp
        rw [Bool.and_eq_true] at hp
        split at h
        · rename_i i j p q h1 h2 h3 h4
          split at h
          · cases h
          · rename_i hij
            cases h
            exact s_par2 o (hcalm rfl) (by rw [o.hN]; exact ix0 h1) (by rw [o.hN]; exact ix0 h2) hij (by rw [o.hs]; exact hx) (by rw [o.hs]; exact hy) (ceB h3) (ceB h4) hp.1 hp.2 (sw hq)
        · cases h
      · cases h
    · rename_i hq
      split at h
      · rename_i t r h1 h2
        cases h
        exact un (hcalm rfl) h1 h2 (sw hq)
      · cases h
    · cases h
  · -- three
    split at h
    · rename_i ns hq
      obtain ⟨rfl, hx, hy, hz⟩ := swapQ3 hq
      split at h
      · rename_i hp
        simp only [Bool.and_eq_true] at hp
        split at h
        · rename_i i j l p q r h1 h2 h3 h4 h5 h6
          split at h
          · cases h
          · rename_i hij
            simp only [not_or] at hij
            cases h
            exact s_par3 o (hcalm rfl) (by rw [o.hN]; exact ix0 h1) (by rw [o.hN]; exact ix0 h2) (by rw [o.hN]; exact ix0 h3) hij.1 hij.2.1 hij.2.2 (by rw [o.hs]; exact hx) (by rw [o.hs]; exact hy) (by rw [o.hs]; exact hz) (ceB h4) (ceB h5) (ceB h6) hp.1 hp.2.1 hp.2.2 (sw hq)
        · cases h
      · cases h
    · rename_i hq
      split at h
      · rename_i t r h1 h2
        cases h
        exact un (hcalm rfl) h1 h2 (sw hq)
      · cases h
    · cases h
  · split at h
    · cases h
    · rename_i hp
      split at h
      · rename_i t r h1 h2
        cases h
        exact un (hcalm rfl) h1 h2 (stores_nt (by simpa using hp))
      · cases h
  · -- x[i] = e
    split at h
    · rename_i hp
      split at h
      · rename_i j oi r h1 h2 h3
        cases h
        obtain ⟨_, hi⟩ := od h2
        exact s_setP hu (slot_ok o h1) hi (ce h3) hp
      · cases h
    · cases h
  · -- aug
    split at h
    · rename_i i f q h1 h2 h3
      cases h
      obtain ⟨l1, l2⟩ := locIx_ok h1
      obtain ⟨g1, g2⟩ := d.loc _ l2
      obtain ⟨_, hi⟩ := od h3
      exact s_aug nd (by rw [o.hN]; exact l1) g1 g2 h2 hi
    · cases h
  · -- x[i] op= e
    split at h
    · rename_i hp
      split at h
      · rename_i j f p q h1 h2 h3 h4
        cases h
        exact s_augSub hK (slot_ok o h1) (ce h3) h2 (ce h4) hp
      · cases h
    · cases h
  · cases h; exact s_doc
  · split at h
    · rename_i hp
      simp only [Bool.and_eq_true] at hp
      obtain ⟨hm, h1, h2⟩ := hp
      have hm' := eq_of_beq hm
      subst hm'
      split at h
      · rename_i i r h3 h4
        cases h
        exact s_app hK (slot_ok o h3) rfl (ce h4) h1 h2
      · cases h
    · split at h
      · rename_i hp
        simp only [Bool.and_eq_true] at hp
        obtain ⟨hm, h1, h2⟩ := hp
        have hm' := eq_of_beq hm
        subst hm'
        split at h
        · rename_i i r h3 h4
          cases h
          exact s_ext hK (slot_ok o h3) rfl (ce h4) h1 h2
        · cases h
      · cases h
  · split at h
    · rename_i t s1 s2 h1 h2 h3
      cases h
      exact s_if (ct h1) (blk h2) (blk h3)
    · cases h
  · split at h
    · rename_i hp
      split at h
      · rename_i mi t s1 h1 h2 h3
        cases h
        exact s_for hK d.own (o.calm (hcalm rfl)) (ci h1) (cg (hcalm rfl) h2) (blk h3) hp
      · cases h
    · cases h
  · split at h
    · rename_i t s1 h1 h2
      cases h
      exact s_while d.own (ct h1) (blk h2)
    · cases h
  · cases h; exact s_pass
  · -- raise
    split at h
    · rename_i hp
      simp only [Bool.and_eq_true] at hp
      cases h
      exact s_raise o (hcalm rfl) d.tk (memS_ok hp.1) hp.2.1 (of_decide_eq_true hp.2.2)
    · cases h
  · -- try
    split at h
    · rename_i hp
      simp only [Bool.and_eq_true] at hp
      split at h
      · rename_i b i su h1 h2 h3
        cases h
        have hh := hcalm rfl
        refine s_try o hh d.tk d.st d.fr (memS_ok hp.1) hp.2.1 hp.2.2 h2 ?_ (fun C fI T' => suOf_ok o hh h3 h2 T') fun W pn xe tk own => ?_
        · unfold slotIx at h2
          split at h2
          · split at h2
            · exact ix0 h2
            · exact ix0 h2
            · exact ix0 h2
            · cases h2
          · cases h2
        · exact ss_blk ((mapO_ok h1).2 _ fun st m _ he => ih st m he _ _ k (d.tr hh tk own))
      · cases h
    · cases h
  · cases h; exact s_break
  · cases h; exact s_cont
  · cases h
theorem compS_ok (T : Tab) (N : List Str) (sc : Scope) : ∀ (n : Nat) st s, compS T N sc n st = some s → ∀ (F : Fx) (X : Cx) (k : Nat), Xd F T N sc k X → PS X st (rdS F s)
  | 0 => fun _ _ h => by simp [compS] at h
  | n + 1 => step_s n (compS_ok T N sc n)
theorem compB_ok {n : Nat} {ss : List Stmt} {ms : List S} (h : mapO (compS T N sc n) ss = some ms) (d : Xd F T N sc k X) : PSs X ss (rdS F (blkS ms)) := ss_blk ((mapO_ok h).2 _ fun st m _ he => compS_ok T N sc n st m he F X k d)
end
end Dv
namespace Dv
open PySem PySem.Spec PyProof.Rows L2
/-- a def's meaning, by its body's -/
def runB (n : Nat) (s : S) : Fn := fun args => match s (args.map Sl.val ++ List.replicate (n - args.length) .no) with
  | .ok .nx _ => .ok .non
  | .ok (.ret d) _ => .ok d
  | .exc x _ => .exc x
  | _ => .bad
def compB (T : Tab) (N : List Str) (sc : Scope) (n : Nat) (ss : List Stmt) : Option S := (mapO (compS T N sc n) ss).map blkS
section
variable {P : Program} {w : World} {K : Frg} {mg : Str → Option Value} {base : Heap} {XR : XRel} {T : Tab} {N ps : List Str} {k : Nat}
theorem er_start {G H : Hp} {vs : List V} {ds : List D} {N : List Str} {W : WX} {XR : XRel} (s : Same G H) (gt : NoTb G) (tb : ∀ P ∈ XR.tabs, TabT H P) (r : RpAll K G vs ds) : Er ⟨K, G, H, fun _ => none, W, XR⟩ G H (start N vs) (ds.map Sl.val ++ List.replicate (N.length - ds.length) .no) (fun _ => []) where
  len := by unfold L2.start; simp [r.length]
  g0 := srfl
  h0 := Ext.refl H
  tab := ⟨gt, fun a ps e => (nomatch e), tb⟩
  gh := s
  new := fun a o e n => by rw [show G a = none from n] at e; cases e
  val := fun i d q => by
    unfold L2.start
    by_cases h : i < ds.length
    · rw [List.getElem?_append_left (by simpa using h), List.getElem?_map] at q
      cases e : ds[i]? with
      | none => rw [e] at q; cases q
      | some d' =>
        rw [e] at q
        cases q
        obtain ⟨v, h1, h2⟩ := r.get e
        refine ⟨v, ?_, h2⟩
        rw [List.getElem?_append_left (by rw [List.length_map, r.length]; exact h), List.getElem?_map, h1]
        rfl
    · rw [List.getElem?_append_right (by simpa using h), List.getElem?_replicate] at q
      split at q <;> cases q
  own := fun i d q => by
    exfalso
    by_cases h : i < ds.length
    · rw [List.getElem?_append_left (by simpa using h), List.getElem?_map] at q
      cases e : ds[i]? with
      | none => rw [e] at q; cases q
      | some d' => rw [e] at q; cases q
    · rw [List.getElem?_append_right (by simpa using h), List.getElem?_replicate] at q
      split at q <;> cases q
  dis := fun i j d e ne q1 q2 a ha => by cases ha
  held := fun a o e => by cases e
/-- what a table needs of a module -/
structure TabOk (P : Program) (w : World) (K : Frg) (mg : Str → Option Value) (base : Heap) (XR : XRel) (T : Tab) (k : Nat) : Prop where
  fns : ∀ e ∈ T.fns, FnIn P w K mg base XR k e
  hfns : ∀ e ∈ T.hfns, FnInH P w K mg base XR k e
  exc : ExcOk P K mg T.excs
  xr : XR.rel = ExcR mg T.excs
  cons : ∀ q ∈ T.cons, ∃ u v, mg q.1 = some u ∧ RelV v u ∧ ∀ H, Rp K H v q.2
  free : ∀ x ∈ T.free, mg x = none
theorem TabOk.mono {j : Nat} (h : TabOk P w K mg base XR T j) (hk : j ≤ k) : TabOk P w K mg base XR T k := ⟨fun e he => (h.fns e he).mono hk, fun e he => (h.hfns e he).mono hk, h.exc, h.xr, h.cons, h.free⟩
theorem body_rd {G H : Hp} {vs : List V} {ds : List D} {Q : VK} {E : XK} {s : S} (same : Same G H) (gt : NoTb G) (tb : ∀ P ∈ XR.tabs, TabT H P) (r : RpAll K G vs ds)
    (h : match runB N.length s ds with
      | .ok d => ∀ v G' H', Grow G H G' H' → RvF K H G' H' v d → Q v H'
      | .exc x => ∀ c dx H', Ext H H' → XR x c dx H' → E c dx H'
      | .bad => False) : rdS ⟨K, G, H, fun _ => none, fun c d _ H => E c d H, XR⟩ s { nx := fun _ H' => Q .non H', rt := Q } (start N vs) H := by
  refine ⟨G, _, _, er_start same gt tb r, ?_⟩
  unfold runB at h
  cases e : s (ds.map Sl.val ++ List.replicate (N.length - ds.length) .no) with
  | bad => rw [e] at h; exact h
  | exc x ρ =>
    rw [e] at h
    exact fun σ c dx G' H' O' E' s' xr => h c dx H' E'.h0 xr
  | ok f ρ =>
    rw [e] at h
    cases f with
    | nx => exact fun σ' G' H' O' E' s' => h .non G' H' ⟨E'.g0, E'.h0, E'.tab.gt, E'.gh, E'.new⟩ (.inr ⟨rfl, .non⟩)
    | ret d =>
      refine fun v σ' G' H' O' E' s' r' => h v G' H' ⟨E'.g0, E'.h0, E'.tab.gt, E'.gh, E'.new⟩ ?_
      rcases r' with ⟨p, o, _, rfl, h1, h2, h3, _, _, h4⟩ | ⟨hm, r'⟩
      · exact .inl ⟨p, o, rfl, h3, h1, h2, h4⟩
      · exact .inr ⟨hm rfl, r'⟩
    | bk => exact h.elim
    | ct => exact h.elim
/-- a def keeps its promise -/
theorem funD_code {CX : CXT} {N ps : List Str} {k : Nat} {sp : Sp} {x qual : Str} {params : Arguments} {body : List Stmt} {scope : Scope} {dvs : List V} {kws : List (Str × V)} {f : Addr} {fd : FuncData} (F : FunD K x qual params body scope dvs kws f fd) (S : FnScope N ps scope) (len : ∀ vs H Q E, sp vs H Q E → vs.length = ps.length)
    (hbody : ∀ (A : Around) (outer : List Env) (s : Shared) (H : Hp) (vs : List V) (Q : VK) (E : XK), Room k (A.deeper (envOfC qual scope s.heap.objs.size f fd.code)) → sp vs H Q E →
      ∃ t, PSs (cxOf CX P w K mg base N qual scope f fd.code A outer s H E) body t ∧ t { nx := fun _ H' => Q .non H', rt := Q } (start N vs) H) : FnOk P w K mg base CX (k + 1) f fd ps sp := by
  obtain ⟨oc, od, dV, kV, doc, pm, an, cdv, ct, osl, rfl, lk, hcd, _, _⟩ := F.ex
  exact fn_of lk hcd S len fun A outer s H vs Q E hr hsp => hbody A outer s H vs Q E hr hsp
theorem fn_ok {x qual : Str} {params : Arguments} {body : List Stmt} {scope : Scope} {dvs : List V} {kws : List (Str × V)} {f : Addr} {fd : FuncData} {n : Nat} {s : S} (FD : FunD K x qual params body scope dvs kws f fd) (S : FnScope N ps scope) (hT : T.hot = false) (tk : TabOk P w K mg base XR T k) (hc : ∃ c P, fd.code = .ref c ∧ GxR.TabB base mg c P ∧ P ∈ XR.tabs) (h : compB T N scope n body = some s) :
    FnOk P w K mg base (L2N.CX P w) (k + 1) f fd ps (spF K XR ps.length (runB N.length s)) := by
  refine funD_code FD S (fun vs H Q E h => spF_len h) fun A outer s0 H vs Q E hr hsp => ?_
  obtain ⟨G, ds, same, gt, tb, r, hl, hq⟩ := hsp
  obtain ⟨ms, h1, h2⟩ := map_some h
  subst h2
  let F : Fx := ⟨K, G, H, fun _ => none, fun c d _ H => E c d H, XR⟩
  have pass : ∀ σ, PassesAt (L2N.CX P w) (cxOf (L2N.CX P w) P w K mg base N qual scope f fd.code A outer s0 H E) σ (WE F.W σ) := fun σ => L2N.passAt (L2N.takes_of rfl rfl rfl rfl) σ
  have o : ∀ B, Xo (F.asd B) T N scope k (cxOf (L2N.CX P w) P w K mg base N qual scope f fd.code A outer s0 H E) := fun B => ⟨rfl, rfl, rfl, S.nd, fun _ => rfl, L2H.roomH_of hr, fun _ => hr.hd, fun e he => ⟨fun _ => tk.fns e he, fun z => by rw [hT] at z; cases z⟩, fun _ => tk.hfns, tk.exc, tk.xr, tk.cons, tk.free, pass, hc⟩
  have d : Xd F T N scope k (cxOf (L2N.CX P w) P w K mg base N qual scope f fd.code A outer s0 H E) := ⟨o _, o, fun _ => rfl, passes_of rfl, L2N.takes_of rfl rfl rfl rfl, rfl, rfl⟩
  exact ⟨_, compB_ok h1 d, body_rd same gt tb r hq⟩
/-- within an except suite -/
theorem fn_okH {x qual : Str} {params : Arguments} {body : List Stmt} {scope : Scope} {dvs : List V} {kws : List (Str × V)} {f : Addr} {fd : FuncData} {n : Nat} {s : S} (FD : FunD K x qual params body scope dvs kws f fd) (S : FnScope N ps scope) (tk : TabOk P w K mg base XR T k) (hc : ∃ c P, fd.code = .ref c ∧ GxR.TabB base mg c P ∧ P ∈ XR.tabs) (h : compB T.heat N scope n body = some s) :
    L2H.FnH P w K mg base (L2N.CX P w) (k + 1) f fd ps (spF K XR ps.length (runB N.length s)) := by
  obtain ⟨oc, od, dV, kV, doc, pm, an, cdv, ct, osl, rfl, lk, hcd, _, _⟩ := FD.ex
  refine L2H.fn_ofH lk hcd S (fun vs H Q E h => spF_len h) fun A outer s0 H vs Q E p hot hr hsp => ?_
  obtain ⟨G, ds, same, gt, tb, r, hl, hq⟩ := hsp
  obtain ⟨ms, h1, h2⟩ := map_some h
  subst h2
  let F : Fx := ⟨K, G, H, fun _ => none, fun c d _ H => E c d H, XR⟩
  have tkk : L2N.Takes (L2H.cxH (L2N.CX P w) P w K mg base N qual scope f cdv A outer s0 H E p) F.W := L2N.takes_of rfl rfl rfl rfl
  have pass : ∀ σ, PassesAt (L2N.CX P w) (L2H.cxH (L2N.CX P w) P w K mg base N qual scope f cdv A outer s0 H E p) σ (WE F.W σ) := fun σ => L2N.passAt tkk σ
  have hC : L2H.HotC (L2H.cxH (L2N.CX P w) P w K mg base N qual scope f cdv A outer s0 H E p) := ⟨p, hot, List.mem_singleton.mpr rfl⟩
  have o : ∀ B, Xo (F.asd B) T.heat N scope k (L2H.cxH (L2N.CX P w) P w K mg base N qual scope f cdv A outer s0 H E p) := fun B => ⟨rfl, rfl, rfl, S.nd, (fun z => nomatch z), hr, (fun z => nomatch z), fun e he => ⟨(fun z => nomatch z), fun _ => ⟨hC, tk.hfns e he⟩⟩, (fun z => nomatch z), tk.exc, tk.xr, tk.cons, tk.free, pass, hc⟩
  have d : Xd F T.heat N scope k (L2H.cxH (L2N.CX P w) P w K mg base N qual scope f cdv A outer s0 H E p) := ⟨o _, o, fun _ => rfl, passes_of rfl, tkk, rfl, rfl⟩
  exact ⟨_, compB_ok h1 d, body_rd same gt tb r hq⟩
end
end Dv
namespace Dv
open PySem PySem.Spec PyProof.Rows L2
/-- a def of the module: its name, its slots' names (the parameters first), how many parameters, its text -/
structure Df where
  name : Str
  N : List Str
  ar : Nat
  st : Stmt
def Df.d (q : Df) : He.DefD := ⟨(q.name, none), q.name, q.name, defArgs q.st, defBody q.st, defScope q.st, [], []⟩
/-- what a def does, by what the defs do that it may call -/
def semOf (T : Tab) (q : Df) : Fn := match compB T q.N (defScope q.st) 60 (defBody q.st) with
  | some s => runB q.N.length s
  | none => fun _ => .bad
def extT (T : Tab) (q : Df) : Tab := { T with fns := ⟨q.name, q.ar, semOf T q⟩ :: T.fns }
def extH (T : Tab) (q : Df) : Tab := { T with hfns := ⟨q.name, q.ar, semOf T.heat q⟩ :: T.hfns }
def mkTabH : Tab → List Df → Tab
  | T, [] => T
  | T, q :: qs => mkTabH (extH T q) qs
def mkTab : Tab → List Df → Tab
  | T, [] => T
  | T, q :: qs => mkTab (extT T q) qs
section
variable {P : Program} {w : World} {K : Frg} {mg : Str → Option Value} {base : Heap} {XR : XRel} {T : Tab} {k : Nat}
structure DfOk (K : Frg) (mg : Str → Option Value) (base : Heap) (XR : XRel) (q : Df) : Prop where
  ex : ∃ f fd, mg q.name = some (.ref f) ∧ (∃ c P, fd.code = .ref c ∧ GxR.TabB base mg c P ∧ P ∈ XR.tabs) ∧ FunD K q.name q.name (defArgs q.st) (defBody q.st) (defScope q.st) [] [] f fd ∧ Binds K fd (q.N.take q.ar) []
  sc : FnScope q.N (q.N.take q.ar) (defScope q.st)
  len : (q.N.take q.ar).length = q.ar
theorem sem_ok {q : Df} {f : Addr} {fd : FuncData} (FD : FunD K q.name q.name (defArgs q.st) (defBody q.st) (defScope q.st) [] [] f fd) (S : FnScope q.N (q.N.take q.ar) (defScope q.st)) (hl : (q.N.take q.ar).length = q.ar) (hc : ∃ c P, fd.code = .ref c ∧ GxR.TabB base mg c P ∧ P ∈ XR.tabs) (hT : T.hot = false) (tk : TabOk P w K mg base XR T k) :
    FnOk P w K mg base (L2N.CX P w) (k + 1) f fd (q.N.take q.ar) (spF K XR q.ar (semOf T q)) := by
  unfold semOf
  cases h : compB T q.N (defScope q.st) 60 (defBody q.st) with
  | some s =>
    have := fn_ok FD S hT tk hc h
    rw [hl] at this
    exact this
  | none =>
    refine FD.ok S (fun vs H Q E h => (spF_len h).trans hl.symm) fun cdv A outer s0 H vs Q E hr hsp => ?_
    obtain ⟨G, ds, same, _, _, r, hl, hq⟩ := hsp
    exact hq.elim
theorem ext_ok {q : Df} (hq : DfOk K mg base XR q) (hT : T.hot = false) (tk : TabOk P w K mg base XR T k) : TabOk P w K mg base XR (extT T q) (k + 1) := by
  refine ⟨fun e he => ?_, fun e he => (tk.hfns e he).mono (Nat.le_succ k), tk.exc, tk.xr, tk.cons, tk.free⟩
  rcases List.mem_cons.mp he with rfl | he
  · obtain ⟨f, fd, h1, hc, h2, h3⟩ := hq.ex
    exact ⟨f, fd, _, h1, h2.kp, h3, sem_ok h2 hq.sc hq.len hc hT tk⟩
  · exact (tk.fns e he).mono (Nat.le_succ k)
theorem sem_okH {q : Df} {f : Addr} {fd : FuncData} (FD : FunD K q.name q.name (defArgs q.st) (defBody q.st) (defScope q.st) [] [] f fd) (S : FnScope q.N (q.N.take q.ar) (defScope q.st)) (hl : (q.N.take q.ar).length = q.ar) (hc : ∃ c P, fd.code = .ref c ∧ GxR.TabB base mg c P ∧ P ∈ XR.tabs) (tk : TabOk P w K mg base XR T k) :
    L2H.FnH P w K mg base (L2N.CX P w) (k + 1) f fd (q.N.take q.ar) (spF K XR q.ar (semOf T.heat q)) := by
  unfold semOf
  cases h : compB T.heat q.N (defScope q.st) 60 (defBody q.st) with
  | some s =>
    have := fn_okH FD S tk hc h
    rw [hl] at this
    exact this
  | none =>
    refine ⟨fun vs H Q E h => (spF_len h).trans hl.symm, fun A outer s0 H args us vs Q E p _ _ _ _ _ _ hsp => ?_⟩
    obtain ⟨G, ds, same, _, _, r, hl, hq⟩ := hsp
    exact hq.elim
theorem ext_okH {q : Df} (hq : DfOk K mg base XR q) (tk : TabOk P w K mg base XR T k) : TabOk P w K mg base XR (extH T q) (k + 1) := by
  refine ⟨fun e he => (tk.fns e he).mono (Nat.le_succ k), fun e he => ?_, tk.exc, tk.xr, tk.cons, tk.free⟩
  rcases List.mem_cons.mp he with rfl | he
  · obtain ⟨f, fd, h1, hc, h2, h3⟩ := hq.ex
    exact ⟨f, fd, _, h1, h2.kp, h3, sem_okH h2 hq.sc hq.len hc tk⟩
  · exact (tk.hfns e he).mono (Nat.le_succ k)
theorem tab_okH : ∀ (qs : List Df) (T : Tab) (k : Nat), TabOk P w K mg base XR T k → (∀ q ∈ qs, DfOk K mg base XR q) → TabOk P w K mg base XR (mkTabH T qs) (k + qs.length)
  | [], T, k, h, _ => h
  | q :: qs, T, k, h, hq => by
    have := tab_okH qs (extH T q) (k + 1) (ext_okH (hq q List.mem_cons_self) h) fun q' h' => hq q' (List.mem_cons_of_mem _ h')
    rw [List.length_cons, show k + (qs.length + 1) = k + 1 + qs.length by omega]
    exact this
theorem mkTabH_hot : ∀ (qs : List Df) (T : Tab), T.hot = false → (mkTabH T qs).hot = false
  | [], _, h => h
  | _ :: qs, _, h => mkTabH_hot qs _ h
theorem mkTab_hot : ∀ (qs : List Df) (T : Tab), T.hot = false → (mkTab T qs).hot = false
  | [], _, h => h
  | _ :: qs, _, h => mkTab_hot qs _ h
theorem tab_ok : ∀ (qs : List Df) (T : Tab) (k : Nat), T.hot = false → TabOk P w K mg base XR T k → (∀ q ∈ qs, DfOk K mg base XR q) → TabOk P w K mg base XR (mkTab T qs) (k + qs.length)
  | [], T, k, _, h, _ => h
  | q :: qs, T, k, hT, h, hq => by
    have := tab_ok qs (extT T q) (k + 1) hT (ext_ok (hq q List.mem_cons_self) hT h) fun q' h' => hq q' (List.mem_cons_of_mem _ h')
    rw [List.length_cons, show k + (qs.length + 1) = k + 1 + qs.length by omega]
    exact this
end
/-- no exception of one's own; the tables of the law's defs -/
def lawXR (R : Exn → Value → Option Addr → Hp → Prop) (cs : List (Addr × Addr)) : XRel := ⟨R, cs.map (·.2)⟩
def cutTb (H : Hp) : Hp := fun b => match H b with
  | some (.tbl _) => none
  | x => x
theorem cutTb_of {H : Hp} {b : Addr} {o : HO} (h : H b = some o) (n : noT o) : cutTb H b = some o := by
  unfold cutTb
  rw [h]
  cases o <;> first | rfl | exact absurd rfl (n _)
theorem cutTb_same (H : Hp) : Same (cutTb H) H := fun b o e => by
  unfold cutTb at e
  split at e
  · cases e
  · exact e
theorem cutTb_no (H : Hp) : NoTb (cutTb H) := fun b ps e => by
  unfold cutTb at e
  split at e
  · cases e
  · rename_i h
    exact h ps e
theorem cutTb_sql {K : Frg} {H : Hp} {a : Addr} {xs : List V} (h : SqL K H a xs) : SqL K (cutTb H) a xs := by
  rcases h with (h | ⟨u, h⟩) | h
  · exact .inl (.inl (cutTb_of h fun ps e => nomatch e))
  · exact .inl (.inr ⟨u, cutTb_of h fun ps e => nomatch e⟩)
  · exact .inr h
theorem law_sp {R : Exn → Value → Option Addr → Hp → Prop} {K : Frg} {cs : List (Addr × Addr)} {s : Fn} {n : Nat} (hs : ∀ ns : List Int, ns.length ≤ n → (∀ z ∈ ns, Builtin.Int.intBits z ≤ 1048576) → s [.scr ns] = .ok (.bl true)) (H : Hp) (a : Addr) (ns : List Int) (hl : ns.length ≤ n) (hb : ∀ z ∈ ns, Builtin.Int.intBits z ≤ 1048576) (hT : ∀ p ∈ cs, H p.2 = some (.tbl #[])) (hS : SqL K H a (ns.map V.int)) :
    spF K (lawXR R cs) 1 s [.ref a] H (fun v _ => v = .bl true) fun _ _ _ => False := by
  refine ⟨cutTb H, [.scr ns], cutTb_same H, cutTb_no H, fun P hP => ?_, .cons (.scr (cutTb_sql hS)) .nil, rfl, ?_⟩
  · obtain ⟨p, hp, rfl⟩ := List.mem_map.mp hP
    exact ⟨#[], hT p hp, trivial⟩
  · rw [hs ns hl hb]
    intro v G' H' g r
    rcases r with ⟨p, o, rfl, h1, h2, h3, h4⟩ | ⟨_, r⟩
    · cases h4
    · cases r; rfl
theorem law_cx {P : Program} {w : World} (H : Hp) (s : Shared) (e : Value) (s' : Shared) (h : L2N.CX P w [] H s (fun _ _ _ => False) e s') : False := by
  obtain ⟨_, _, _, _, _, _, _, _, _, _, _, _, z⟩ := h
  exact z.elim
theorem tabB_of {base : Heap} {mg : Str → Option Value} {c P : Addr} (t : LamX.TabB base mg c P) : GxR.TabB base mg c P := ⟨t.code, t.bm, t.gP⟩
/-- a law's end; cs: the defs' code objects and their tables -/
theorem walk_ofT {l : PySem.W.OpenLaw} {n k : Nat} {q : Program} {loose : List Str} {XP : (Str → Option Value) → Heap → Prop} {YP : World → Heap → Prop} {d : DefRec} {x : Str} (hn : l.most = some n) (hn2 : n ≤ sizeLine) (hdf : d.params.defaults = []) (hr : Room k callerA)
    (FF : ∀ (w : World) (mg : Str → Option Value) (fa : Addr) (h : Heap), YP w h → h.Ns mainGlobals mg → mg d.name = some (.ref fa) → ∃ (K : Frg) (fd : FuncData) (s : Fn) (R : Exn → Value → Option Addr → Hp → Prop) (cs : List (Addr × Addr)), K.In h ∧ (∀ (s : Shared) (u : Value), BindsTo s fd ⟨[u], []⟩ [(x, u)]) ∧
        (∀ ns : List Int, ns.length ≤ n → (∀ z ∈ ns, Builtin.Int.intBits z ≤ 1048576) → s [.scr ns] = .ok (.bl true)) ∧ (∀ p ∈ cs, h.get? p.2 = some { cls := .none, data := .fields #[] }) ∧ (∀ p ∈ cs, K.lookup p.2 = none) ∧ (∀ p ∈ cs, PySem.W.CodeHd h p.1 p.2) ∧
        ∀ base : Heap, K.In base → base.Ns mainGlobals mg → (∀ p ∈ cs, GxR.TabB base mg p.1 p.2) → FnOk l.prog w K mg base (L2N.CX l.prog w) k fa fd [x] (spF K (lawXR R cs) 1 s)) :
    PySem.W.WalkO q loose XP YP l.row.toRowW d [] (fun f vs => PySem.call f vs) := by
  refine LamX.walk_ofTsE (x := x) (CX := fun w => L2N.CX l.prog w) hn hn2 hdf hr (fun w mg fa h Y G hm => ?_) fun w H s e s' => law_cx H s e s'
  obtain ⟨K, fd, s, R, cs, KX, hbn, hsp, hT, nT, C, hF⟩ := FF w mg fa h Y G hm
  exact ⟨K, KX, fd, cs, _, hT, nT, C, hbn, fun H a ns hl hb hH hS => law_sp hsp H a ns hl hb hH hS, fun base h1 h2 h3 => hF base h1 h2 fun p hp => tabB_of (h3 p hp)⟩
end Dv
namespace Dv
open PySem PySem.Spec PyProof.Rows L2
/-! ### a module's constants: tuples within tuples -/
def dvIn (K : Frg) : Nat → Value → D → Bool
  | 0, _, _ => false
  | n + 1, u, d => match u, d with
    | .none, .non => true
    | .bool b, .bl c => b == c
    | .int i _, .int j => decide (i = j)
    | .str x _, .str y => decide (x = y)
    | .ref a, .tup ds => (match K.lookup a with
      | some ⟨.type c, _, .seq its _, _⟩ => decide (c = "tuple") && (decide (its.size ≤ sizeLine) && (decide (its.toList.length = ds.length) && (its.toList.zip ds).all fun q => dvIn K n q.1 q.2))
      | _ => false)
    | _, _ => false
theorem dvIn_all {K : Frg} {n : Nat} (ih : ∀ u d, dvIn K n u d = true → ∃ v, RelV v u ∧ ∀ H, Rp K H v d) : ∀ (us : List Value) (ds : List D), us.length = ds.length → ((us.zip ds).all fun q => dvIn K n q.1 q.2) = true → ∃ vs, Vals vs us ∧ ∀ H, RpAll K H vs ds
  | [], [], _, _ => ⟨[], .nil, fun _ => .nil⟩
  | [], _ :: _, h, _ => by simp at h
  | _ :: _, [], h, _ => by simp at h
  | u :: us, d :: ds, h, q => by
    rw [List.zip_cons_cons, List.all_cons, Bool.and_eq_true] at q
    obtain ⟨v, h1, h2⟩ := ih u d q.1
    obtain ⟨vs, h3, h4⟩ := dvIn_all ih us ds (by simpa using h) q.2
    exact ⟨v :: vs, .cons h1 h3, fun H => .cons (h2 H) (h4 H)⟩
theorem dvIn_ok {K : Frg} : ∀ (n : Nat) (u : Value) (d : D), dvIn K n u d = true → ∃ v, RelV v u ∧ ∀ H, Rp K H v d
  | 0, u, d, h => by cases h
  | n + 1, u, d, h => by
    unfold dvIn at h
    split at h
    · exact ⟨.non, rfl, fun _ => .non⟩
    · rename_i b c
      have e : b = c := eq_of_beq h
      subst e
      exact ⟨.bl b, rfl, fun _ => .bl b⟩
    · rename_i i t j
      have e : i = j := of_decide_eq_true h
      subst e
      exact ⟨.int i, ⟨t, rfl⟩, fun _ => .int i⟩
    · rename_i x t y
      have e : x = y := of_decide_eq_true h
      subst e
      exact ⟨.str x, ⟨t, rfl⟩, fun _ => .str x⟩
    · rename_i a ds
      split at h
      · rename_i c od its m sl q
        simp only [Bool.and_eq_true] at h
        obtain ⟨h1, h2, h3, h4⟩ := h
        obtain ⟨vs, h5, h6⟩ := dvIn_all (dvIn_ok n) its.toList ds (of_decide_eq_true h3) h4
        exact ⟨.ref a, rfl, fun H => .tup (.inr ⟨_, its, m, q, congrArg Value.type (of_decide_eq_true h1), rfl, of_decide_eq_true h2, h5⟩) (h6 H)⟩
      · cases h
    · cases h
/-- a fact about a name of the module, for hookX's last place -/
def conIn (K : Frg) (q : Str × D) : Bool := match PySem.W.nsIn K mainGlobals q.1 with
  | some (some u) => dvIn K 20 u q.2
  | _ => false
theorem conIn_ok {K : Frg} {h : Heap} {mg : Str → Option Value} (X : K.In h) (G : h.Ns mainGlobals mg) {q : Str × D} (c : conIn K q = true) : ∃ u v, mg q.1 = some u ∧ RelV v u ∧ ∀ H, Rp K H v q.2 := by
  unfold conIn at c
  split at c
  · rename_i u e
    obtain ⟨v, h1, h2⟩ := dvIn_ok 20 u q.2 c
    exact ⟨u, v, PySem.W.mg_of X G e, h1, h2⟩
  · cases c
/-- a def's code object and its table -/
theorem code_of {R : Exn → Value → Option Addr → Hp → Prop} {K : Frg} {base : Heap} {mg : Str → Option Value} {x qual : Str} {params : Arguments} {body : List Stmt} {scope : Scope} {dvs : List V} {kws : List (Str × V)} {fd : FuncData} {p : He.Defn} {tf : List He.Defn} (F : FunD K x qual params body scope dvs kws (He.fAd K p) fd) (hp : p ∈ tf) (hb : ∀ r ∈ tf.map (He.cT K), GxR.TabB base mg r.1 r.2) :
    ∃ c P, fd.code = .ref c ∧ GxR.TabB base mg c P ∧ P ∈ (lawXR R (tf.map (He.cT K))).tabs := by
  obtain ⟨oc, od, dV, kV, doc, pm, an, cdv, ct, osl, rfl, lk, hcd, _, _⟩ := F.ex
  obtain ⟨c, rfl⟩ := He.codeIn_ref hcd
  have e : He.codeOf K p = c := He.codeOf_eq lk rfl
  have hm : (c, He.tabOf K c) ∈ tf.map (He.cT K) := List.mem_map.mpr ⟨p, hp, by unfold He.cT; rw [e]⟩
  exact ⟨c, He.tabOf K c, rfl, hb _ hm, List.mem_map.mpr ⟨_, hm, rfl⟩⟩
/-- constants by data, for hookX's last place -/
def conAll (cs : List (Str × D)) (K : Frg) : Bool := cs.all (conIn K)
theorem conAll_ok {cs : List (Str × D)} {K : Frg} (h : conAll cs K = true) : ∀ q ∈ cs, conIn K q = true := List.all_eq_true.mp h
section
variable {fa : List He.Fa} {fn : List He.DefD} {tf : List He.Defn} {ex : Frg → Bool} {w : World} {h : Heap} {K : Frg}
theorem tabs_empty (c : He.SaysX fa fn [] tf ex w h K) : ∀ r ∈ tf.map (He.cT K), h.get? r.2 = some { cls := .none, data := .fields #[] } := fun r hr => by
  obtain ⟨p, hp, rfl⟩ := List.mem_map.mp hr
  exact c.empty p hp
theorem tabs_out (c : He.SaysX fa fn [] tf ex w h K) : ∀ r ∈ tf.map (He.cT K), K.lookup r.2 = none := fun r hr => by
  obtain ⟨p, hp, rfl⟩ := List.mem_map.mp hr
  exact c.out p hp
theorem tabs_hd (c : He.SaysX fa fn [] tf ex w h K) (KX : K.In h) : ∀ r ∈ tf.map (He.cT K), PySem.W.CodeHd h r.1 r.2 := fun r hr => by
  obtain ⟨p, hp, rfl⟩ := List.mem_map.mp hr
  exact PySem.W.codeHd_of_K KX (c.hd p hp)
end
end Dv
/-! own errors, read off the written part -/
namespace Dv
open PySem PySem.W PySem.DamX
def bodyB (b : FuncBody) : Bool := match b with
  | .stmts [.Expr (.Call (.Attribute (.Call (.Name s1 _) [] [] _) a1 q3) [.JoinedStr [.FormattedValue (.Name f1 _) c none _, .Constant (.str m) _ _] _] [] q8) _, .Assign [.Attribute (.Name s2 _) f2 _] (.Name f3 _) _] =>
    decide (s1 = "super") && (decide (a1 = "__init__") && (decide (f1 = "thing") && (decide (c = 114) && (decide (s2 = "self") && (decide (f2 = "thing") && (decide (f3 = "thing") && (decide (m.length ≤ 1000) && (q3.endLine == q8.line))))))))
  | _ => false
theorem bodyB_ok {b : FuncBody} (h : bodyB b = true) : ∃ (m : Str) (k : Nat) (q1 q2 q3 q4 q5 q6 q7 q8 q9 q10 q11 q12 q13 : Pos), b = .stmts (iB m k q1 q2 q3 q4 q5 q6 q7 q8 q9 q10 q11 q12 q13) ∧ m.length ≤ 1000 ∧ (q3.endLine == q8.line) = true := by
  unfold bodyB at h
  split at h
  · simp only [Bool.and_eq_true, decide_eq_true_eq] at h
    obtain ⟨rfl, rfl, rfl, rfl, rfl, rfl, rfl, h8, h9⟩ := h
    exact ⟨_, _, _, _, _, _, _, _, _, _, _, _, _, _, _, rfl, h8, h9⟩
  · cases h
def parB (p : Arguments) : Bool := match p with
  | ⟨[], [⟨a1, none, _⟩, ⟨a2, none, _⟩], none, [], [], none, []⟩ => decide (a1 = "self") && decide (a2 = "thing")
  | _ => false
theorem parB_ok {p : Arguments} (h : parB p = true) : ∃ p1 p2, p = iA p1 p2 := by
  unfold parB at h
  split at h
  · simp only [Bool.and_eq_true, decide_eq_true_eq] at h
    obtain ⟨rfl, rfl⟩ := h
    exact ⟨_, _, rfl⟩
  · cases h
def scB (s : Scope) : Bool := decide (s.kind = .function) && (decide (s.names = iS.names) && (!s.isGenerator && (!s.isCoroutine && s.more.isEmpty)))
theorem scB_ok {s : Scope} (h : scB s = true) : s = iS := by
  unfold scB at h
  simp only [Bool.and_eq_true, decide_eq_true_eq, Bool.not_eq_true', List.isEmpty_iff] at h
  obtain ⟨h1, h2, h3, h4, h5⟩ := h
  cases s
  simp only at h1 h2 h3 h4 h5
  subst h1 h2 h3 h4 h5
  rfl
def clsB (K : Frg) (C : Addr) : Bool := match K.lookup C with
  | some ⟨.type t, _, .cls cd, sl⟩ => (match cd.mro, sl.toList with
    | .ref C' :: bm, [_, _, _, _, some (.builtin n), _] => decide (t = "type") && (decide (C' = C) && (decide (n = "ValueError.__new__") && (!cd.hasDel && (cd.hasDict && HandSPX.refsVE bm))))
    | _, _ => false)
  | _ => false
theorem clsB_ok {K : Frg} {C : Addr} (h : clsB K C = true) : ∃ nm q N bs bm sn sub ab col dd k0 k1 k2 k3 k5, K.lookup C = some (excClassObj nm q C N bs bm true sn sub ab col dd k0 k1 k2 k3 k5 "ValueError.__new__") ∧ HandSPX.refsVE bm = true := by
  unfold clsB at h
  split at h
  · rename_i t dd cd sl e
    split at h
    · rename_i C' bm k0 k1 k2 k3 n k5 e1 e2
      simp only [Bool.and_eq_true, decide_eq_true_eq, Bool.not_eq_true'] at h
      obtain ⟨rfl, rfl, rfl, h4, h5, h6⟩ := h
      obtain ⟨nm, bs, mro, ns, qn, hd, sn, sb, ab, col, del⟩ := cd
      simp only at e1 h4 h5
      subst e1 h4 h5
      have e3 : sl = #[k0, k1, k2, k3, some (.builtin "ValueError.__new__"), k5] := by
        rw [← e2]
      subst e3
      exact ⟨_, _, _, _, _, _, _, _, _, _, _, _, _, _, _, e, h6⟩
    · cases h
  · cases h
def fnB (K : Frg) (file : Str) (C f : Addr) : Bool := match K.lookup f with
  | some ⟨_, _, .func fd, _⟩ => (match fd.code, fd.closure with
    | .ref cda, [(y, cc)] => decide (y = "__class__") && (decide (fd.name = "__init__") && (bodyB fd.body && (parB fd.params && (scB fd.scope && (decide (fd.globals = mainGlobals) && (decide (fd.defaults = .none) && (decide (fd.kwdefaults = .none) && (decide (fd.builtins = builtinsNs) && (codeIn K (.ref cda) fd.qualname &&
        ((match K.lookup cda with
          | some ⟨_, _, .fields vs, _⟩ => (match (vs[2]? : Option Value) with
            | some (Value.str fl _) => file == fl
            | _ => false)
          | _ => false) &&
        (match K.lookup cc with
          | some ⟨_, _, .cell (some (.ref D)), _⟩ => decide (D = C)
          | _ => false)))))))))))
    | _, _ => false)
  | _ => false
theorem fnB_ok {K : Frg} {file : Str} {C f : Addr} (h : fnB K file C f = true) : ∃ (oc : Value) (od : Option Addr) (q : Str) (doc pm : Value) (an : Option Addr) (cda cc : Addr) (ct : Value) (osl : Array (Option Value)) (m : Str) (k : Nat) (p1 p2 q1 q2 q3 q4 q5 q6 q7 q8 q9 q10 q11 q12 q13 : Pos),
    K.lookup f = some ⟨oc, od, .func (ksFn "__init__" q (iA p1 p2) (iB m k q1 q2 q3 q4 q5 q6 q7 q8 q9 q10 q11 q12 q13) iS .none .none doc pm an (.ref cda) ct cc), osl⟩ ∧ codeIn K (.ref cda) q = true ∧ m.length ≤ 1000 ∧ (q3.endLine == q8.line) = true ∧
    (∃ ccl cdd vs ccs fl tf, K.lookup cda = some ⟨ccl, cdd, .fields vs, ccs⟩ ∧ vs[2]? = some (.str fl tf) ∧ (file == fl) = true) ∧
    (∃ cl cld csl, K.lookup cc = some ⟨cl, cld, .cell (some (.ref C)), csl⟩) := by
  unfold fnB at h
  split at h
  · rename_i oc od fd osl e
    split at h
    · rename_i cda y cc e1 e2
      simp only [Bool.and_eq_true, decide_eq_true_eq] at h
      obtain ⟨rfl, h2, h3, h4, h5, h6, h7, h8, h9, h10, h11, h12⟩ := h
      obtain ⟨n1, n2, n3, n4, n5, n6, n7, n8, n9, n10, n11, n12, n13, n14, n15⟩ := fd
      simp only at e1 e2 h2 h3 h4 h5 h6 h7 h8 h9 h10
      obtain ⟨m, k, q1, q2, q3, q4, q5, q6, q7, q8, q9, q10, q11, q12, q13, rfl, hm, hl⟩ := bodyB_ok h3
      obtain ⟨p1, p2, rfl⟩ := parB_ok h4
      have h5' := scB_ok h5
      subst e1 e2 h2 h5' h6 h7 h8 h9
      refine ⟨oc, od, n2, n10, n11, n12, cda, cc, n14, osl, m, k, p1, p2, q1, q2, q3, q4, q5, q6, q7, q8, q9, q10, q11, q12, q13, e, h10, hm, hl, ?_, ?_⟩
      · split at h11
        · rename_i ccl cdd vs ccs e3
          split at h11
          · rename_i fl tf e4
            exact ⟨ccl, cdd, vs, ccs, fl, tf, e3, e4, h11⟩
          · cases h11
        · cases h11
      · split at h12
        · rename_i cl cld D csl e3
          have := of_decide_eq_true h12
          subst this
          exact ⟨cl, cld, csl, e3⟩
        · cases h12
    · cases h
  · cases h
def excB (K : Frg) (file : Str) (x : Str) : Bool :=
  decide (nsIn K mainGlobals x = some (some (.ref (He.ga K x)))) && (decide (nsIn K mainGlobals "super" = some none) && (clsB K (He.ga K x) && (decide (findIn K (.ref (He.ga K x)) "__setattr__" = some (some (.builtin "object.__setattr__"))) &&
  (decide (findIn K (.ref (He.ga K x)) "__getattribute__" = some (some (.builtin "BaseException.__getattribute__"))) && (decide (findIn K (.ref (He.ga K x)) "__getattr__" = some none) && (decide (findIn K (.ref (He.ga K x)) "thing" = some none) &&
  (decide (findIn K (.ref (He.ga K x)) "__init__" = some (some (.ref (He.ma K (He.ga K x) "__init__")))) && (decide (typeIn K (.ref (He.ma K (He.ga K x) "__init__")) = some (.type "function")) && (keepIn K (.ref (He.ga K x)) &&
  (decide (subIn K (.ref (He.ga K x)) (.type "BaseException") = some true) && (decide (subIn K (.ref (He.ga K x)) (.type "ValueError") = some true) && (decide (typeIn K (.ref (He.ga K x)) = some (.type "type")) && (hasDictIn K (He.ga K x) &&
  (decide (mroIn K (He.ga K x) (.ref (He.ga K x)) = some true) && (decide (ks_superIn K (He.ga K x) (He.ga K x) "__init__" = some (some (.builtin "ValueError.__init__"))) && (decide (nsIn K cStatics "thirdparty.any" = some none) &&
  (excInitIn K (He.ga K x) [.type "ValueError", .type "Exception", .type "BaseException", .type "object"] "ValueError.__new__" && fnB K file (He.ga K x) (He.ma K (He.ga K x) "__init__"))))))))))))))))))
theorem excB_ok {K : Frg} {h : Heap} {mg : Str → Option Value} {prog : Program} {x : Str} (X : K.In h) (G : h.Ns mainGlobals mg) (c : excB K prog.main.file x = true) (top : (prog.main.scope.names.lookup ("super" : Str)).isSome = false) : ∃ C fI, Txt K mg prog x C fI := by
  unfold excB at c
  simp only [Bool.and_eq_true, decide_eq_true_eq] at c
  obtain ⟨c1, c2, c3, c4, c5, c6, c7, c8, c9, c10, c11, c12, c13, c14, c15, c16, c17, c18, c19⟩ := c
  exact ⟨_, _, mg_of X G c1, mg_none_of X G c2, clsB_ok c3, c4, c5, c6, c7, c8, c9, c10, c11, c12, c13, c14, c15, c16, c17, c18, fnB_ok c19, top⟩
def excsB (K : Frg) (file : Str) (es : List Str) : Bool := es.all (excB K file) && es.all fun x => es.all fun y => decide (exmOne K (.ref (He.ga K x)) (.ref (He.ga K y)) = some (decide (x = y)))
theorem excsB_ok {K : Frg} {h : Heap} {mg : Str → Option Value} {prog : Program} {es : List Str} (X : K.In h) (G : h.Ns mainGlobals mg) (c : excsB K prog.main.file es = true) (top : (prog.main.scope.names.lookup ("super" : Str)).isSome = false) : ExcOk prog K mg es := by
  unfold excsB at c
  rw [Bool.and_eq_true] at c
  refine ⟨fun x hx => excB_ok X G (List.all_eq_true.mp c.1 x hx) top, fun x hx y hy C C' h1 h2 => ?_⟩
  have e := of_decide_eq_true (List.all_eq_true.mp (List.all_eq_true.mp c.2 x hx) y hy)
  have gx : ∀ z ∈ es, mg z = some (.ref (He.ga K z)) := fun z hz => by
    have q := List.all_eq_true.mp c.1 z hz
    unfold excB at q
    rw [Bool.and_eq_true] at q
    exact mg_of X G (of_decide_eq_true q.1)
  rw [gx x hx] at h1
  rw [gx y hy] at h2
  cases h1
  cases h2
  exact e
end Dv
/-! the written part with the interpreter's statics in it -/
namespace Dv
open PySem PySem.W
def asZ (g : Addr → Option Obj) (n : Nat) : List Addr := cStatics :: He.asD g n
def obsZ (n : Nat) (fa : List He.Fa) (fn : List He.DefD) (tf : List He.Defn) (ex : Frag → Bool) (g : Addr → Option Obj) : He.AlX :=
  (He.obsT fa fn [] (He.frT g (asZ g n)), ex (He.frT g (asZ g n)) && He.tabsB g tf (He.frT g (asZ g n)))
theorem saysZ_of {n : Nat} {fa : List He.Fa} {fn : List He.DefD} {tf : List He.Defn} {ex : Frag → Bool} {w : World} {h : Heap} (e : obsZ n fa fn tf ex h.get? = He.valX fn [] w) : He.SaysX fa fn [] tf ex w h (He.frT h.get? (asZ h.get? n)) := by
  have e1 : He.obsT fa fn [] (He.frT h.get? (asZ h.get? n)) = He.valT fn [] w := congrArg (fun z : He.AlX => z.1) e
  have e2 : (ex (He.frT h.get? (asZ h.get? n)) && He.tabsB h.get? tf (He.frT h.get? (asZ h.get? n))) = true := congrArg (fun z : He.AlX => z.2) e
  obtain ⟨h1, h2⟩ := Bool.and_eq_true_iff.mp e2
  have key : ∀ p ∈ tf, codeHdIn (He.frT h.get? (asZ h.get? n)) (He.cT (He.frT h.get? (asZ h.get? n)) p).1 (He.cT (He.frT h.get? (asZ h.get? n)) p).2 = true ∧ ∃ o, h.get? (He.cT (He.frT h.get? (asZ h.get? n)) p).2 = some o ∧ He.emptyTab o = true := fun p hp => by
    obtain ⟨h3, h4⟩ := Bool.and_eq_true_iff.mp (List.all_eq_true.mp h2 p hp)
    refine ⟨h3, ?_⟩
    cases q : h.get? (He.cT (He.frT h.get? (asZ h.get? n)) p).2 with
    | none =>
      rw [q] at h4
      cases h4
    | some o =>
      rw [q] at h4
      exact ⟨o, rfl, h4⟩
  exact ⟨e1, h1, fun p hp => (key p hp).1, fun p hp => by
    obtain ⟨_, o, q, z⟩ := key p hp
    exact He.frT_none q z, fun p hp => by
    obtain ⟨_, o, q, z⟩ := key p hp
    rw [q, He.emptyTab_eq z]⟩
def hookZ (n : Nat) (fa : List He.Fa) (fn : List He.DefD) (tf : List He.Defn) (ex : Frag → Bool) : Hook where
  α := He.AlX
  obs := fun s => obsZ n fa fn tf ex s.heap.get?
  val := fun w => He.valX fn [] w
  says := fun w h => ∃ K : Frag, K.In h ∧ He.SaysX fa fn [] tf ex w h K
  of := fun _ _ e => ⟨_, He.frT_in, saysZ_of e⟩
  keeps := fun _ _ _ ⟨K, hK, c⟩ k => ⟨K, Frag.In.keeps hK k, ⟨c.t, c.more, c.hd, c.out, fun p hp => k _ _ (c.empty p hp)⟩⟩
theorem obsZ_eq {n : Nat} {fa : List He.Fa} {fn : List He.DefD} {tf : List He.Defn} {ex : Frag → Bool} {g : Addr → Option Obj} {s : Shared} (h : ∀ a, g a = s.heap.get? a) : obsZ n fa fn tf ex g = (hookZ n fa fn tf ex).obs s := by
  have e : g = s.heap.get? := funext h
  rw [e] <;> rfl
end Dv
namespace Dv
open PySem PyProof.Rows L2
/-! ### bits -/
theorem xor_and_two : ∀ n x y : Nat, x ≤ n → (x ^^^ y) + 2 * (x &&& y) = x + y
  | 0, x, y, h => by
    have : x = 0 := by omega
    subst this
    simp
  | n + 1, x, y, h => by
    by_cases hx : x = 0
    · subst hx; simp
    have ih := xor_and_two n (x / 2) (y / 2) (by omega)
    have a1 : (x ^^^ y) / 2 = (x / 2) ^^^ (y / 2) := Nat.xor_div_two
    have a2 : (x &&& y) / 2 = (x / 2) &&& (y / 2) := Nat.and_div_two
    have a3 : (x ^^^ y) % 2 = (x + y) % 2 := by
      have h1 : (x ^^^ y) % 2 = (x % 2) ^^^ (y % 2) := Nat.xor_mod_two_pow (n := 1)
      rw [h1, Nat.add_mod]
      rcases Nat.mod_two_eq_zero_or_one x with e | e <;> rcases Nat.mod_two_eq_zero_or_one y with e' | e' <;> rw [e, e'] <;> rfl
    have a4 : (x &&& y) % 2 = (x % 2) * (y % 2) := by
      have h1 : (x &&& y) % 2 = (x % 2) &&& (y % 2) := Nat.and_mod_two_pow (n := 1)
      rw [h1]
      rcases Nat.mod_two_eq_zero_or_one x with e | e <;> rcases Nat.mod_two_eq_zero_or_one y with e' | e' <;> rw [e, e'] <;> rfl
    have b1 : (x ^^^ y) = 2 * ((x / 2) ^^^ (y / 2)) + (x + y) % 2 := by rw [← a1, ← a3]; omega
    have b2 : (x &&& y) = 2 * ((x / 2) &&& (y / 2)) + (x % 2) * (y % 2) := by rw [← a2, ← a4]; omega
    rw [b1, b2]
    rcases Nat.mod_two_eq_zero_or_one x with e | e <;> rcases Nat.mod_two_eq_zero_or_one y with e' | e' <;> rw [e, e'] <;> omega
theorem bxor_nat (a b : Nat) : Builtin.bitXor (a : Int) (b : Int) = ((a ^^^ b : Nat) : Int) := by
  rw [bitXor_and, PySem.W.os_band]
  have := xor_and_two a a b (Nat.le_refl _)
  omega
theorem band_nat (a b : Nat) : Builtin.bitAnd (a : Int) (b : Int) = ((a &&& b : Nat) : Int) := PySem.W.os_band a b
/-! ### loops -/
theorem for_list {t : Tg} {s : S} (Inv : Nat → En → Prop) : ∀ (ds : List D) (i0 : Nat) (ρ : En), Inv i0 ρ →
    (∀ i d ρ, ds[i]? = some d → Inv (i0 + i) ρ → ∃ ρ1 ρ2, bindT t d ρ = some ρ1 ∧ (s ρ1 = .ok .nx ρ2 ∨ s ρ1 = .ok .ct ρ2) ∧ Inv (i0 + i + 1) ρ2) → ∃ ρ', forL t s ds ρ = .ok .nx ρ' ∧ Inv (i0 + ds.length) ρ'
  | [], i0, ρ, h0, _ => ⟨ρ, rfl, h0⟩
  | d :: ds, i0, ρ, h0, hs => by
    obtain ⟨ρ1, ρ2, h1, h2, h3⟩ := hs 0 d ρ rfl h0
    obtain ⟨ρ', h4, h5⟩ := for_list (t := t) (s := s) Inv ds (i0 + 1) ρ2 h3 fun i d ρ hd hi => by
      have := hs (i + 1) d ρ (by simpa using hd) (by rw [show i0 + (i + 1) = i0 + 1 + i by omega]; exact hi)
      rw [show i0 + (i + 1) + 1 = i0 + 1 + i + 1 by omega] at this
      exact this
    refine ⟨ρ', ?_, by rw [List.length_cons, show i0 + (ds.length + 1) = i0 + 1 + ds.length by omega]; exact h5⟩
    unfold forL
    rw [h1]
    rcases h2 with h2 | h2 <;> (simp only [h2]; exact h4)
theorem for_range {v : Nat} {s : S} (Inv : Nat → En → Prop) {lo c : Int} {n : Nat} {ρ : En} (h0 : Inv 0 ρ) (hs : ∀ i ρ, i < n → Inv i ρ → ∃ ρ2, (s (ρ.set v (.val (.int (lo + i * c)))) = .ok .nx ρ2 ∨ s (ρ.set v (.val (.int (lo + i * c)))) = .ok .ct ρ2) ∧ Inv (i + 1) ρ2) :
    ∃ ρ', forL (.nm v) s (rangeL lo n c) ρ = .ok .nx ρ' ∧ Inv n ρ' := by
  obtain ⟨ρ', h1, h2⟩ := for_list (t := .nm v) (s := s) Inv (rangeL lo n c) 0 ρ h0 fun i d ρ hd hi => by
    have hl : i < n := by
      have := (List.getElem?_eq_some_iff.mp hd).1
      simpa [rangeL] using this
    have : d = .int (lo + i * c) := by
      unfold rangeL at hd
      rw [List.getElem?_map, List.getElem?_range hl] at hd
      exact (Option.some.inj hd).symm
    subst this
    rw [Nat.zero_add] at hi ⊢
    obtain ⟨ρ2, a, b⟩ := hs i ρ hl hi
    exact ⟨_, ρ2, rfl, a, b⟩
  refine ⟨ρ', h1, ?_⟩
  have : (rangeL lo n c).length = n := by simp [rangeL]
  rw [this, Nat.zero_add] at h2
  exact h2
/-- a while loop: m a measure that sinks -/
theorem while_ok {c : M Bool} {s : S} (Inv : Nat → En → Prop) (Done : En → Prop) : ∀ (fuel m : Nat) (ρ : En), m < fuel → Inv m ρ →
    (∀ m ρ, Inv m ρ → (∃ ρ1, c ρ = .ok false ρ1 ∧ Done ρ1) ∨ ∃ ρ1 ρ2 m', c ρ = .ok true ρ1 ∧ (s ρ1 = .ok .nx ρ2 ∨ s ρ1 = .ok .ct ρ2) ∧ m' < m ∧ Inv m' ρ2) → ∃ ρ', whileL c s fuel ρ = .ok .nx ρ' ∧ Done ρ'
  | 0, m, ρ, h, _, _ => by omega
  | n + 1, m, ρ, h, hi, hs => by
    rcases hs m ρ hi with ⟨ρ1, h1, h2⟩ | ⟨ρ1, ρ2, m', h1, h2, h3, h4⟩
    · refine ⟨ρ1, ?_, h2⟩
      unfold whileL
      rw [h1]
      rfl
    · obtain ⟨ρ', h5, h6⟩ := while_ok (c := c) (s := s) Inv Done n m' ρ2 (by omega) h4 hs
      refine ⟨ρ', ?_, h6⟩
      unfold whileL
      rw [h1]
      rcases h2 with h2 | h2 <;> (simp only [R.bind_ok, if_true, h2]; exact h5)
/-! ### evaluation by simp -/
@[simp] theorem x_seqS (s t : S) (ρ : En) : seqS s t ρ = match s ρ with
  | .ok .nx ρ' => t ρ'
  | r => r := Eq.trans rfl rfl
@[simp] theorem x_nxS (ρ : En) : nxS ρ = .ok .nx ρ := Eq.trans rfl rfl
@[simp] theorem x_bkS (ρ : En) : bkS ρ = .ok .bk ρ := Eq.trans rfl rfl
@[simp] theorem x_ctS (ρ : En) : ctS ρ = .ok .ct ρ := Eq.trans rfl rfl
@[simp] theorem x_retS (m : M D) (fr : Bool) (ρ : En) : retS m fr ρ = (m ρ).bind fun d ρ' => if fr = false ∧ isMut d = true then .bad else .ok (.ret d) ρ' := Eq.trans rfl rfl
@[simp] theorem x_retNS (ρ : En) : retNS ρ = .ok (.ret .non) ρ := Eq.trans rfl rfl
@[simp] theorem x_retV (i : Nat) (ρ : En) : retV i ρ = match ρ[i]? with
  | some (.val d) => if isMut d then .bad else .ok (.ret d) ρ
  | some (.own d) => .ok (.ret d) (ρ.set i .no)
  | _ => .bad := Eq.trans rfl rfl
@[simp] theorem x_ifS (c : M Bool) (s t : S) (ρ : En) : ifS c s t ρ = (c ρ).bind fun b ρ' => if b = true then s ρ' else t ρ' := Eq.trans rfl rfl
@[simp] theorem x_asgS (i : Nat) (m : M D) (fr : Bool) (ρ : En) : asgS i m fr ρ = (m ρ).bind fun d ρ' => .ok .nx (ρ'.set i (slotOf fr d)) := Eq.trans rfl rfl
@[simp] theorem x_slotOf (d : D) : slotOf true d = if isMut d = true then .own d else .val d := by simp [slotOf]
@[simp] theorem x_slotOf' (d : D) : slotOf false d = .val d := by simp [slotOf]
@[simp] theorem x_opM (f : List D → Option D) (os : List Opd) (ρ : En) : opM f os ρ = (evO os ρ).bind fun ds ρ' => match f ds with
  | some d => .ok d ρ'
  | none => .bad := Eq.trans rfl rfl
@[simp] theorem x_opI (f : List D → Option (List D)) (os : List Opd) (ρ : En) : opI f os ρ = (evO os ρ).bind fun ds ρ' => match f ds with
  | some d => .ok d ρ'
  | none => .bad := Eq.trans rfl rfl
@[simp] theorem x_ev0 (ρ : En) : evO [] ρ = .ok [] ρ := Eq.trans rfl rfl
@[simp] theorem x_ev1 (m : M D) (os : List Opd) (ρ : En) : evO (.ex m :: os) ρ = (m ρ).bind fun d ρ1 => (evO os ρ1).bind fun ds ρ2 => .ok (d :: ds) ρ2 := Eq.trans rfl rfl
@[simp] theorem x_ev2 (i : Nat) (os : List Opd) (ρ : En) : evO (.va i :: os) ρ = match slD ρ[i]? with
    | none => .bad
    | some _ => (evO os ρ).bind fun ds ρ2 => match slD ρ2[i]? with
      | some d => .ok (d :: ds) ρ2
      | none => .bad := Eq.trans rfl rfl
@[simp] theorem x_sl1 (d : D) : slD (some (.val d)) = some d := Eq.trans rfl rfl
@[simp] theorem x_sl2 (d : D) : slD (some (.own d)) = some d := Eq.trans rfl rfl
@[simp] theorem x_retM (d : D) (ρ : En) : retM d ρ = .ok d ρ := Eq.trans rfl rfl
@[simp] theorem x_varM (i : Nat) (ρ : En) : varM i ρ = match ρ[i]? with
  | some (.val d) => .ok d ρ
  | some (.own d) => .ok d (ρ.set i (.val d))
  | _ => .bad := Eq.trans rfl rfl
@[simp] theorem x_f1 (f : D → Option D) (a : D) : f1 f [a] = f a := Eq.trans rfl rfl
@[simp] theorem x_f2 (f : D → D → Option D) (a b : D) : f2 f [a, b] = f a b := Eq.trans rfl rfl
@[simp] theorem x_boolM (m : M D) (ρ : En) : boolM m ρ = (m ρ).bind fun d ρ' => match d with
  | .bl b => .ok b ρ'
  | _ => .bad := Eq.trans rfl rfl
@[simp] theorem x_truM (o : Opd) (ρ : En) : truM o ρ = (evO [o] ρ).bind fun ds ρ' => match ds with
  | [d] => (match truD d with
    | some b => .ok b ρ'
    | none => .bad)
  | _ => .bad := Eq.trans rfl rfl
@[simp] theorem x_notM (m : M Bool) (ρ : En) : notM m ρ = (m ρ).bind fun b ρ' => .ok (!b) ρ' := Eq.trans rfl rfl
@[simp] theorem x_andM (m n : M Bool) (ρ : En) : andM m n ρ = (m ρ).bind fun b ρ' => if b = true then n ρ' else .ok false ρ' := Eq.trans rfl rfl
@[simp] theorem x_orM (m n : M Bool) (ρ : En) : orM m n ρ = (m ρ).bind fun b ρ' => if b = true then .ok true ρ' else n ρ' := Eq.trans rfl rfl
@[simp] theorem x_iteM (c : M Bool) (m n : M D) (ρ : En) : iteM c m n ρ = (c ρ).bind fun b ρ' => if b = true then m ρ' else n ρ' := Eq.trans rfl rfl
@[simp] theorem x_tvM (m : M Bool) (ρ : En) : tvM m ρ = (m ρ).bind fun b ρ' => .ok (.bl b) ρ' := Eq.trans rfl rfl
@[simp] theorem x_lstM (ms : List (M D)) (ρ : En) : lstM ms ρ = (evO (ms.map Opd.ex) ρ).bind fun ds ρ' => .ok (.lst ds) ρ' := Eq.trans rfl rfl
@[simp] theorem x_tupM (ms : List (M D)) (ρ : En) : tupM ms ρ = (evO (ms.map Opd.ex) ρ).bind fun ds ρ' => .ok (.tup ds) ρ' := Eq.trans rfl rfl
@[simp] theorem x_forS (mi : M (List D)) (t : Tg) (s : S) (ρ : En) : forS mi t s ρ = (mi ρ).bind fun ds ρ1 => forL t s ds ρ1 := Eq.trans rfl rfl
@[simp] theorem x_whileS (c : M Bool) (s : S) (ρ : En) : whileS c s ρ = whileL c s 1000000000 ρ := Eq.trans rfl rfl
@[simp] theorem x_parS (l : List PIt) (ρ : En) : parS l ρ = match parL l ρ with
  | .ok _ ρ' => .ok .nx ρ'
  | .exc x ρ' => .exc x ρ'
  | .bad => .bad := Eq.trans rfl rfl
@[simp] theorem x_par0 (ρ : En) : parL [] ρ = .ok () ρ := Eq.trans rfl rfl
@[simp] theorem x_par1 (q : PIt) (r : List PIt) (ρ : En) : parL (q :: r) ρ = (q.m ρ).bind fun d ρ1 => match parL r ρ1 with
    | .ok _ ρ2 => .ok () (ρ2.set q.i (slotOf q.fr d))
    | .exc x ρ2 => .exc x ρ2
    | .bad => .bad := Eq.trans rfl rfl
@[simp] theorem x_appS (i : Nat) (m : M D) (ρ : En) : appS i m ρ = match ρ[i]? with
  | some (.own (.lst _)) => (m ρ).bind fun d ρ' => (match ρ'[i]? with
    | some (.own (.lst ds)) => if ds.length ≤ 16000000 then .ok .nx (ρ'.set i (.own (.lst (ds ++ [d])))) else .bad
    | _ => .bad)
  | _ => .bad := Eq.trans rfl rfl
@[simp] theorem x_setS (j : Nat) (oi : Opd) (m : M D) (ρ : En) : setS j oi m ρ = (m ρ).bind fun d ρ1 => match slD ρ1[j]? with
  | none => .bad
  | some _ => (evO [oi] ρ1).bind fun es ρ2 => (match es, ρ2[j]? with
    | [.int n], some (.own (.lst ds)) => (match ixI ds.length n with
      | some q => .ok .nx (ρ2.set j (.own (.lst (ds.set q d))))
      | none => .bad)
    | _, _ => .bad) := Eq.trans rfl rfl
@[simp] theorem x_setPS (j : Nat) (oi : Opd) (m : M D) (ρ : En) : setPS j oi m ρ = match ρ[j]? with
  | some (.own (.dic _ _)) => putS j oi m ρ
  | _ => setS j oi m ρ := Eq.trans rfl rfl
@[simp] theorem x_dicM (ρ : En) : dicM ρ = .ok (.dic [] []) ρ := Eq.trans rfl rfl
@[simp] theorem x_callM (s : Fn) (os : List Opd) (ρ : En) : callM s os ρ = (evO os ρ).bind fun ds ρ' => match s ds with
  | .ok d => .ok d (if hasOwn os ρ' then (if indep d then ρ' else giveOs os ρ') else ρ')
  | .exc x => .exc x ρ'
  | .bad => .bad := Eq.trans rfl rfl
@[simp] theorem x_cmpEq : cmpD .Eq = eqD := Eq.trans rfl rfl
@[simp] theorem x_cmpNe : cmpD .NotEq = neD := Eq.trans rfl rfl
@[simp] theorem x_cmpLt : cmpD .Lt = ltD := Eq.trans rfl rfl
@[simp] theorem x_cmpLe : cmpD .LtE = leD := Eq.trans rfl rfl
@[simp] theorem x_cmpGt : cmpD .Gt = gtD := Eq.trans rfl rfl
@[simp] theorem x_cmpGe : cmpD .GtE = geD := Eq.trans rfl rfl
@[simp] theorem x_cmpIs : cmpD .Is = isD := Eq.trans rfl rfl
@[simp] theorem x_cmpIn (a b : D) : cmpD .In a b = (inB' a b).map D.bl := Eq.trans rfl rfl
@[simp] theorem x_eqI (i j : Int) : eqD (.int i) (.int j) = some (.bl (decide (i = j))) := Eq.trans rfl rfl
@[simp] theorem x_neI (i j : Int) : neD (.int i) (.int j) = some (.bl (!decide (i = j))) := Eq.trans rfl rfl
@[simp] theorem x_ltI (i j : Int) : ltD (.int i) (.int j) = some (.bl (decide (i < j))) := Eq.trans rfl rfl
@[simp] theorem x_leI (i j : Int) : leD (.int i) (.int j) = some (.bl (decide (i ≤ j))) := Eq.trans rfl rfl
@[simp] theorem x_gtI (i j : Int) : gtD (.int i) (.int j) = some (.bl (decide (j < i))) := Eq.trans rfl rfl
@[simp] theorem x_geI (i j : Int) : geD (.int i) (.int j) = some (.bl (decide (j ≤ i))) := Eq.trans rfl rfl
@[simp] theorem x_isI (i : Int) : isD (.int i) .non = some (.bl false) := Eq.trans rfl rfl
@[simp] theorem x_add (i j : Int) : addD (.int i) (.int j) = some (.int (i + j)) := Eq.trans rfl rfl
@[simp] theorem x_sub (i j : Int) : subD (.int i) (.int j) = some (.int (i - j)) := Eq.trans rfl rfl
@[simp] theorem x_mul (i j : Int) : mulD (.int i) (.int j) = if MulOk i j then some (.int (i * j)) else none := Eq.trans rfl rfl
@[simp] theorem x_mod (i j : Int) : modD (.int i) (.int j) = if 0 < j then some (.int (i % j)) else none := Eq.trans rfl rfl
@[simp] theorem x_div (i j : Int) : fdivD (.int i) (.int j) = if CDiv i j then some (.int (i / j)) else if CDivW i j then some (.int (i / j)) else none := Eq.trans rfl rfl
@[simp] theorem x_xor (i j : Int) : xorD (.int i) (.int j) = some (.int (Builtin.bitXor i j)) := Eq.trans rfl rfl
@[simp] theorem x_and (i j : Int) : andD (.int i) (.int j) = some (.int (Builtin.bitAnd i j)) := Eq.trans rfl rfl
@[simp] theorem x_shr (i j : Int) : shrD (.int i) (.int j) = if 0 ≤ j then some (.int (i / 2 ^ j.toNat)) else none := Eq.trans rfl rfl
@[simp] theorem x_neg (i : Int) : negD (.int i) = some (.int (-i)) := Eq.trans rfl rfl
@[simp] theorem x_abs (i : Int) : absD (.int i) = some (.int (if i < 0 then -i else i)) := Eq.trans rfl rfl
@[simp] theorem x_int (i : Int) : intD (.int i) = some (.int i) := Eq.trans rfl rfl
@[simp] theorem x_isi (T : String) (d : D) : isiD T d = some (.bl (isiB T d)) := Eq.trans rfl rfl
@[simp] theorem x_truB (b : Bool) : truD (.bl b) = some b := Eq.trans rfl rfl
@[simp] theorem x_mutI (i : Int) : isMut (.int i) = false := Eq.trans rfl rfl
@[simp] theorem x_mutB (i : Bool) : isMut (.bl i) = false := Eq.trans rfl rfl
@[simp] theorem x_mutL (l : List D) : isMut (.lst l) = true := Eq.trans rfl rfl
@[simp] theorem x_mutT (l : List D) : isMut (.tup l) = false := Eq.trans rfl rfl
@[simp] theorem x_indI (i : Int) : indep (.int i) = true := Eq.trans rfl rfl
@[simp] theorem x_indB (i : Bool) : indep (.bl i) = true := Eq.trans rfl rfl
@[simp] theorem x_len (l : List D) : lenD (.lst l) = some (.int l.length) := Eq.trans rfl rfl
@[simp] theorem x_lenT (l : List D) : lenD (.tup l) = some (.int l.length) := Eq.trans rfl rfl
@[simp] theorem x_lenS (l : List Int) : lenD (.scr l) = some (.int l.length) := Eq.trans rfl rfl
@[simp] theorem x_andV (m n : M D) (ρ : En) : andV m n ρ = (m ρ).bind fun d ρ' => match truD d with
  | some true => n ρ'
  | some false => .ok d ρ'
  | none => .bad := Eq.trans rfl rfl
@[simp] theorem x_orV (m n : M D) (ρ : En) : orV m n ρ = (m ρ).bind fun d ρ' => match truD d with
  | some true => .ok d ρ'
  | some false => n ρ'
  | none => .bad := Eq.trans rfl rfl
@[simp] theorem x_extS (i : Nat) (m : M D) (ρ : En) : extS i m ρ = match ρ[i]? with
  | some (.own (.lst _)) => (m ρ).bind fun d ρ' => (match ρ'[i]?, d with
    | some (.own (.lst ds)), .lst es => if ds.length + es.length ≤ 16000000 then .ok .nx (ρ'.set i (.own (.lst (ds ++ es)))) else .bad
    | _, _ => .bad)
  | _ => .bad := Eq.trans rfl rfl
@[simp] theorem x_untS (t : Tg) (m : M D) (ρ : En) : untS t m ρ = (m ρ).bind fun d ρ' => match bindT t d ρ' with
  | some ρ2 => .ok .nx ρ2
  | none => .bad := Eq.trans rfl rfl
@[simp] theorem x_augS (i : Nat) (f : D → D → Option D) (o : Opd) (ρ : En) : augS i f o ρ = match ρ[i]? with
  | some (.val d0) => (evO [o] ρ).bind fun ds ρ1 => (match ds with
    | [d] => (match f d0 d with
      | some r => if isMut r then .bad else .ok .nx (ρ1.set i (.val r))
      | none => .bad)
    | _ => .bad)
  | _ => .bad := Eq.trans rfl rfl
/-- what op= does, by the operator -/
def augF (op : Operator) : D → D → Option D := (augD op).getD fun _ _ => none
theorem ixI_nn {n : Nat} {i : Int} (h : 0 ≤ i) (h2 : i < n) : ixI n i = some i.toNat := by
  unfold ixI
  rw [if_pos h, if_pos h2]
theorem forI {f : List D → Option (List D)} {os : List Opd} {t : Tg} {s : S} {ρ ρ1 : En} {ds zs : List D} (h1 : evO os ρ = .ok ds ρ1) (h2 : f ds = some zs) : forS (opI f os) t s ρ = forL t s zs ρ1 := by
  unfold forS opI
  rw [h1]
  simp only [R.bind_ok, h2]
/-- a def's end, by its body's -/
theorem run_of {n : Nat} {s : S} {args : List D} {d : D} {ρ : En} (h : s (args.map Sl.val ++ List.replicate (n - args.length) .no) = .ok (.ret d) ρ) : runB n s args = .ok d := by
  unfold runB
  rw [h]
theorem seq_nx {s t : S} {ρ ρ' : En} (h : s ρ = .ok .nx ρ') : seqS s t ρ = t ρ' := by
  unfold seqS
  rw [h]
end Dv
namespace Dv
open PySem PyProof.Rows L2
/-! ### the helpers that all laws share -/
def drBody : S := ifS (andM (truM (.va 3)) (boolM (opM (f2 (cmpD .Gt)) [.va 2, .ex (retM (.int 0))])))
        (seqS (appS 5 (opM (f2 modD) [.ex (opM (f1 intD) [.va 2]), .ex (retM (.int 5040))]))
        (asgS 2 (opM (f2 fdivD) [.va 2, .ex (retM (.int 5040))]) true))
        (seqS (asgS 7 (opM (f2 modD) [.ex (opM (f1 intD) [.ex (opM (f2 addD) [.ex (opM (f2 addD) [.ex (opM (f2 mulD) [.va 4, .ex (retM (.int 48271))]), .ex (opM (f2 mulD) [.ex (opM (f2 addD) [.va 6, .ex (retM (.int 1))]), .ex (retM (.int 69621))])]), .ex (retM (.int 11))])]), .ex (retM (.int 2147483647))]) true)
        (seqS (asgS 7 (opM (f2 modD) [.ex (opM (f1 intD) [.ex (opM (f2 addD) [.ex (opM (f2 mulD) [.va 7, .va 7]), .ex (opM (f2 mulD) [.ex (retM (.int 40692)), .ex (opM (f2 addD) [.va 6, .ex (retM (.int 3))])])])]), .ex (retM (.int 2147483399))]) true)
        (appS 5 (opM (f2 modD) [.ex (opM (f1 intD) [.ex (opM (f2 fdivD) [.va 7, .ex (retM (.int 64))])]), .ex (retM (.int 5040))]))))
def semDraws : Fn := runB 8
    (seqS (asgS 2 (opM (f1 absD) [.ex (opM (f1 intD) [.va 0])]) true)
    (seqS (asgS 3 (opM (f2 (cmpD .GtE)) [.va 2, .ex (opM (f2 powD) [.ex (retM (.int 10)), .ex (retM (.int 18))])]) true)
    (seqS (asgS 4 (varM 2) false)
    (seqS (asgS 5 (lstM []) true)
    (seqS (forS (opI rng1 [.va 1]) (.nm 6) drBody)
    (retV 5))))))
theorem mulOk_r {i j : Int} (h : -(2 ^ 64) < j ∧ j < 2 ^ 64) : MulOk i j := .inl (.inr h)
theorem mulOk_l {i j : Int} (h : -(2 ^ 64) < i ∧ i < 2 ^ 64) : MulOk i j := .inl (.inl h)
theorem cdiv_ok {i j : Int} (h : 0 < j ∧ j < 1073741824) : CDiv i j := h
theorem p5040 : (0 : Int) < 5040 := by decide
theorem pM1 : (0 : Int) < 2147483647 := by decide
theorem pM2 : (0 : Int) < 2147483399 := by decide
theorem dr_dig {a b s c : Sl} {r : Int} {ds : List D} {k m : Sl} (hr : 0 < r) (hl : ds.length ≤ 16000000) :
    drBody [a, b, .val (.int r), .val (.bl true), s, .own (.lst ds), k, m] = .ok .nx [a, b, .val (.int (r / 5040)), .val (.bl true), s, .own (.lst (ds ++ [.int (r % 5040)])), k, m] := by
  have d1 : CDiv r 5040 := cdiv_ok (by decide)
  unfold drBody
  simp only [x_seqS, x_nxS, x_bkS, x_ctS, x_retS, x_retNS, x_retV, x_ifS, x_asgS, x_slotOf, x_slotOf', x_opM, x_opI, x_ev0, x_ev1, x_ev2, x_sl1, x_sl2, x_retM, x_varM, x_f1, x_f2, x_boolM, x_truM, x_notM, x_andM, x_orM, x_iteM, x_tvM, x_lstM, x_tupM, x_forS, x_whileS, x_parS, x_par0, x_par1, x_appS, x_setS, x_setPS, x_dicM, x_callM, x_cmpEq, x_cmpNe, x_cmpLt, x_cmpLe, x_cmpGt, x_cmpGe, x_cmpIs, x_cmpIn, x_eqI, x_neI, x_ltI, x_leI, x_gtI, x_geI, x_isI, x_add, x_sub, x_mul, x_mod, x_div, x_xor, x_and, x_shr, x_neg, x_abs, x_int, x_isi, x_truB, x_mutI, x_mutB, x_mutL, x_mutT, x_indI, x_indB, x_len, x_lenT, x_lenS, x_andV, x_orV, x_extS, x_untS, x_augS, R.bind_ok, R.bind_exc, R.bind_bad, List.getElem?_cons_zero, List.getElem?_cons_succ, List.set_cons_zero, List.set_cons_succ, Option.map_some, if_true, if_false, decide_eq_true_eq, Bool.not_eq_true, decide_true, decide_false, Bool.false_eq_true, Bool.not_true, Bool.not_false, and_true, true_and, and_false, false_and, List.map_cons, List.map_nil, List.replicate_succ, List.replicate_zero, List.cons_append, List.nil_append, List.length_cons, List.length_nil, List.append_nil, reduceCtorEq, Nat.reduceSub, Nat.reduceAdd, hasOwn, List.any_cons, List.any_nil, Bool.or_false, Bool.or_true, Bool.true_or, Bool.false_or, List.isEmpty_nil, ite_self, eq_self, hr, hl, d1, p5040]
theorem dr_mix {a b c : Sl} {r s k : Int} {bb : Bool} {ds : List D} {m : Sl} (hb : ¬ (bb = true ∧ 0 < r)) (hl : ds.length ≤ 16000000) :
    ∃ x y : Int, drBody [a, b, .val (.int r), .val (.bl bb), .val (.int s), .own (.lst ds), .val (.int k), m] = .ok .nx [a, b, .val (.int r), .val (.bl bb), .val (.int s), .own (.lst (ds ++ [.int (x % 5040)])), .val (.int k), .val (.int y)] := by
  have m1 : ∀ x : Int, MulOk x 48271 := fun x => mulOk_r (by decide)
  have m2 : ∀ x : Int, MulOk x 69621 := fun x => mulOk_r (by decide)
  have m3 : ∀ x : Int, MulOk 40692 x := fun x => mulOk_l (by decide)
  have m4 : ∀ x : Int, MulOk (x % 2147483647) (x % 2147483647) := fun x => mulOk_l (by
    have h1 : 0 ≤ x % 2147483647 := Int.emod_nonneg _ (by decide)
    have h2 : x % 2147483647 < 2147483647 := Int.emod_lt_of_pos _ (by decide)
    omega)
  have d1 : ∀ x : Int, CDiv x 64 := fun x => cdiv_ok (by decide)
  refine ⟨((((s * 48271 + (k + 1) * 69621 + 11) % 2147483647) * ((s * 48271 + (k + 1) * 69621 + 11) % 2147483647) + 40692 * (k + 3)) % 2147483399) / 64, (((s * 48271 + (k + 1) * 69621 + 11) % 2147483647) * ((s * 48271 + (k + 1) * 69621 + 11) % 2147483647) + 40692 * (k + 3)) % 2147483399, ?_⟩
  unfold drBody
  cases bb with
  | false => simp only [x_seqS, x_nxS, x_bkS, x_ctS, x_retS, x_retNS, x_retV, x_ifS, x_asgS, x_slotOf, x_slotOf', x_opM, x_opI, x_ev0, x_ev1, x_ev2, x_sl1, x_sl2, x_retM, x_varM, x_f1, x_f2, x_boolM, x_truM, x_notM, x_andM, x_orM, x_iteM, x_tvM, x_lstM, x_tupM, x_forS, x_whileS, x_parS, x_par0, x_par1, x_appS, x_setS, x_setPS, x_dicM, x_callM, x_cmpEq, x_cmpNe, x_cmpLt, x_cmpLe, x_cmpGt, x_cmpGe, x_cmpIs, x_cmpIn, x_eqI, x_neI, x_ltI, x_leI, x_gtI, x_geI, x_isI, x_add, x_sub, x_mul, x_mod, x_div, x_xor, x_and, x_shr, x_neg, x_abs, x_int, x_isi, x_truB, x_mutI, x_mutB, x_mutL, x_mutT, x_indI, x_indB, x_len, x_lenT, x_lenS, x_andV, x_orV, x_extS, x_untS, x_augS, R.bind_ok, R.bind_exc, R.bind_bad, List.getElem?_cons_zero, List.getElem?_cons_succ, List.set_cons_zero, List.set_cons_succ, Option.map_some, if_true, if_false, decide_eq_true_eq, Bool.not_eq_true, decide_true, decide_false, Bool.false_eq_true, Bool.not_true, Bool.not_false, and_true, true_and, and_false, false_and, List.map_cons, List.map_nil, List.replicate_succ, List.replicate_zero, List.cons_append, List.nil_append, List.length_cons, List.length_nil, List.append_nil, reduceCtorEq, Nat.reduceSub, Nat.reduceAdd, hasOwn, List.any_cons, List.any_nil, Bool.or_false, Bool.or_true, Bool.true_or, Bool.false_or, List.isEmpty_nil, ite_self, eq_self, hl, d1, m1, m2, m3, m4, p5040, pM1, pM2]
  | true =>
    have hr : ¬ 0 < r := fun z => hb ⟨rfl, z⟩
    simp only [x_seqS, x_nxS, x_bkS, x_ctS, x_retS, x_retNS, x_retV, x_ifS, x_asgS, x_slotOf, x_slotOf', x_opM, x_opI, x_ev0, x_ev1, x_ev2, x_sl1, x_sl2, x_retM, x_varM, x_f1, x_f2, x_boolM, x_truM, x_notM, x_andM, x_orM, x_iteM, x_tvM, x_lstM, x_tupM, x_forS, x_whileS, x_parS, x_par0, x_par1, x_appS, x_setS, x_setPS, x_dicM, x_callM, x_cmpEq, x_cmpNe, x_cmpLt, x_cmpLe, x_cmpGt, x_cmpGe, x_cmpIs, x_cmpIn, x_eqI, x_neI, x_ltI, x_leI, x_gtI, x_geI, x_isI, x_add, x_sub, x_mul, x_mod, x_div, x_xor, x_and, x_shr, x_neg, x_abs, x_int, x_isi, x_truB, x_mutI, x_mutB, x_mutL, x_mutT, x_indI, x_indB, x_len, x_lenT, x_lenS, x_andV, x_orV, x_extS, x_untS, x_augS, R.bind_ok, R.bind_exc, R.bind_bad, List.getElem?_cons_zero, List.getElem?_cons_succ, List.set_cons_zero, List.set_cons_succ, Option.map_some, if_true, if_false, decide_eq_true_eq, Bool.not_eq_true, decide_true, decide_false, Bool.false_eq_true, Bool.not_true, Bool.not_false, and_true, true_and, and_false, false_and, List.map_cons, List.map_nil, List.replicate_succ, List.replicate_zero, List.cons_append, List.nil_append, List.length_cons, List.length_nil, List.append_nil, reduceCtorEq, Nat.reduceSub, Nat.reduceAdd, hasOwn, List.any_cons, List.any_nil, Bool.or_false, Bool.or_true, Bool.true_or, Bool.false_or, List.isEmpty_nil, ite_self, eq_self, hr, hl, d1, m1, m2, m3, m4, p5040, pM1, pM2]
theorem pow18 : powD (.int 10) (.int 18) = some (.int 1000000000000000000) := by
  show (if CPow 10 18 then some (D.int (10 ^ (18 : Int).toNat)) else none) = _
  rw [if_pos (show CPow 10 18 from ⟨by decide, by decide, by decide⟩)]
  exact congrArg (fun z => some (D.int z)) (by decide)
theorem rng_nat {n : Nat} (hn : n ≤ 10000) : rng1 [.int (n : Int)] = some (rangeL 0 n 1) := by
  have hr : InRg (n : Int) := by unfold InRg; omega
  show (if InRg (n : Int) then some (rangeL 0 (n : Int).toNat 1) else none) = _
  rw [if_pos hr, Int.toNat_natCast]
theorem draws_ok (c : Int) (n : Nat) (hn : n ≤ 10000) : ∃ ds : List Int, ds.length = n ∧ (∀ d ∈ ds, 0 ≤ d ∧ d < 5040) ∧ semDraws [.int c, .int n] = .ok (.lst (ds.map D.int)) := by
  obtain ⟨K, hK⟩ : ∃ K : Int, powD (.int 10) (.int 18) = some (.int K) := ⟨_, pow18⟩
  let Inv : Nat → En → Prop := fun i ρ => ∃ (r s : Int) (b : Bool) (ds : List Int) (k m : Sl), ρ = [.val (.int c), .val (.int n), .val (.int r), .val (.bl b), .val (.int s), .own (.lst (ds.map D.int)), k, m] ∧ ds.length = i ∧ ∀ d ∈ ds, 0 ≤ d ∧ d < 5040
  obtain ⟨ρ', h1, r, s, b, ds, k, m, h2, h3, h4⟩ := for_range (v := 6) (lo := 0) (c := 1) (n := n) (s := drBody)
      (ρ := [.val (.int c), .val (.int n), .val (.int (if c < 0 then -c else c)), .val (.bl (decide (K ≤ (if c < 0 then -c else c)))), .val (.int (if c < 0 then -c else c)), .own (.lst []), .no, .no]) Inv
      ⟨_, _, _, [], _, _, rfl, rfl, fun d hd => by cases hd⟩ (by
        rintro i _ hi ⟨r, s, b, ds, k, m, rfl, hl, hd⟩
        have hlen : (ds.map D.int).length ≤ 16000000 := by rw [List.length_map]; omega
        have fin : ∀ (x : Int), (∀ d ∈ ds ++ [x % 5040], 0 ≤ d ∧ d < 5040) := fun x d hm => by
          rcases List.mem_append.mp hm with hm | hm
          · exact hd d hm
          · rw [List.mem_singleton] at hm
            subst hm
            exact ⟨Int.emod_nonneg _ (by decide), Int.emod_lt_of_pos _ (by decide)⟩
        have ln : ∀ x : Int, (ds ++ [x]).length = i + 1 := fun x => by rw [List.length_append, hl]; rfl
        by_cases hb : b = true ∧ 0 < r
        · obtain ⟨rfl, hr0⟩ := hb
          refine ⟨_, .inl (dr_dig (c := .no) hr0 hlen), r / 5040, s, true, ds ++ [r % 5040], .val (.int (0 + i * 1)), m, ?_, ln _, fin r⟩
          rw [List.map_append]
          rfl
        · obtain ⟨x, y, hm⟩ := dr_mix (c := .no) (a := .val (.int c)) (b := .val (.int n)) (s := s) (k := 0 + i * 1) (m := m) hb hlen
          refine ⟨_, .inl hm, r, s, b, ds ++ [x % 5040], .val (.int (0 + i * 1)), .val (.int y), ?_, ln _, fin x⟩
          rw [List.map_append]
          rfl)
  refine ⟨ds, h3, h4, ?_⟩
  unfold semDraws
  refine run_of (ρ := ρ'.set 5 .no) ?_
  have hrn := rng_nat hn
  refine (seq_nx (ρ' := [.val (.int c), .val (.int n), .val (.int (if c < 0 then -c else c)), .no, .no, .no, .no, .no]) ?_).trans ?_
  · simp only [x_seqS, x_nxS, x_bkS, x_ctS, x_retS, x_retNS, x_retV, x_ifS, x_asgS, x_slotOf, x_slotOf', x_opM, x_opI, x_ev0, x_ev1, x_ev2, x_sl1, x_sl2, x_retM, x_varM, x_f1, x_f2, x_boolM, x_truM, x_notM, x_andM, x_orM, x_iteM, x_tvM, x_lstM, x_tupM, x_forS, x_whileS, x_parS, x_par0, x_par1, x_appS, x_setS, x_setPS, x_dicM, x_callM, x_cmpEq, x_cmpNe, x_cmpLt, x_cmpLe, x_cmpGt, x_cmpGe, x_cmpIs, x_cmpIn, x_eqI, x_neI, x_ltI, x_leI, x_gtI, x_geI, x_isI, x_add, x_sub, x_mul, x_mod, x_div, x_xor, x_and, x_shr, x_neg, x_abs, x_int, x_isi, x_truB, x_mutI, x_mutB, x_mutL, x_mutT, x_indI, x_indB, x_len, x_lenT, x_lenS, x_andV, x_orV, x_extS, x_untS, x_augS, R.bind_ok, R.bind_exc, R.bind_bad, List.getElem?_cons_zero, List.getElem?_cons_succ, List.set_cons_zero, List.set_cons_succ, Option.map_some, if_true, if_false, decide_eq_true_eq, Bool.not_eq_true, decide_true, decide_false, Bool.false_eq_true, Bool.not_true, Bool.not_false, and_true, true_and, and_false, false_and, List.map_cons, List.map_nil, List.replicate_succ, List.replicate_zero, List.cons_append, List.nil_append, List.length_cons, List.length_nil, List.append_nil, reduceCtorEq, Nat.reduceSub, Nat.reduceAdd, hasOwn, List.any_cons, List.any_nil, Bool.or_false, Bool.or_true, Bool.true_or, Bool.false_or, List.isEmpty_nil, ite_self, eq_self]
  refine (seq_nx (ρ' := [.val (.int c), .val (.int n), .val (.int (if c < 0 then -c else c)), .val (.bl (decide (K ≤ (if c < 0 then -c else c)))), .no, .no, .no, .no]) ?_).trans ?_
  · simp only [x_seqS, x_nxS, x_bkS, x_ctS, x_retS, x_retNS, x_retV, x_ifS, x_asgS, x_slotOf, x_slotOf', x_opM, x_opI, x_ev0, x_ev1, x_ev2, x_sl1, x_sl2, x_retM, x_varM, x_f1, x_f2, x_boolM, x_truM, x_notM, x_andM, x_orM, x_iteM, x_tvM, x_lstM, x_tupM, x_forS, x_whileS, x_parS, x_par0, x_par1, x_appS, x_setS, x_setPS, x_dicM, x_callM, x_cmpEq, x_cmpNe, x_cmpLt, x_cmpLe, x_cmpGt, x_cmpGe, x_cmpIs, x_cmpIn, x_eqI, x_neI, x_ltI, x_leI, x_gtI, x_geI, x_isI, x_add, x_sub, x_mul, x_mod, x_div, x_xor, x_and, x_shr, x_neg, x_abs, x_int, x_isi, x_truB, x_mutI, x_mutB, x_mutL, x_mutT, x_indI, x_indB, x_len, x_lenT, x_lenS, x_andV, x_orV, x_extS, x_untS, x_augS, R.bind_ok, R.bind_exc, R.bind_bad, List.getElem?_cons_zero, List.getElem?_cons_succ, List.set_cons_zero, List.set_cons_succ, Option.map_some, if_true, if_false, decide_eq_true_eq, Bool.not_eq_true, decide_true, decide_false, Bool.false_eq_true, Bool.not_true, Bool.not_false, and_true, true_and, and_false, false_and, List.map_cons, List.map_nil, List.replicate_succ, List.replicate_zero, List.cons_append, List.nil_append, List.length_cons, List.length_nil, List.append_nil, reduceCtorEq, Nat.reduceSub, Nat.reduceAdd, hasOwn, List.any_cons, List.any_nil, Bool.or_false, Bool.or_true, Bool.true_or, Bool.false_or, List.isEmpty_nil, ite_self, eq_self, hK]
  refine (seq_nx (ρ' := [.val (.int c), .val (.int n), .val (.int (if c < 0 then -c else c)), .val (.bl (decide (K ≤ (if c < 0 then -c else c)))), .val (.int (if c < 0 then -c else c)), .no, .no, .no]) ?_).trans ?_
  · simp only [x_seqS, x_nxS, x_bkS, x_ctS, x_retS, x_retNS, x_retV, x_ifS, x_asgS, x_slotOf, x_slotOf', x_opM, x_opI, x_ev0, x_ev1, x_ev2, x_sl1, x_sl2, x_retM, x_varM, x_f1, x_f2, x_boolM, x_truM, x_notM, x_andM, x_orM, x_iteM, x_tvM, x_lstM, x_tupM, x_forS, x_whileS, x_parS, x_par0, x_par1, x_appS, x_setS, x_setPS, x_dicM, x_callM, x_cmpEq, x_cmpNe, x_cmpLt, x_cmpLe, x_cmpGt, x_cmpGe, x_cmpIs, x_cmpIn, x_eqI, x_neI, x_ltI, x_leI, x_gtI, x_geI, x_isI, x_add, x_sub, x_mul, x_mod, x_div, x_xor, x_and, x_shr, x_neg, x_abs, x_int, x_isi, x_truB, x_mutI, x_mutB, x_mutL, x_mutT, x_indI, x_indB, x_len, x_lenT, x_lenS, x_andV, x_orV, x_extS, x_untS, x_augS, R.bind_ok, R.bind_exc, R.bind_bad, List.getElem?_cons_zero, List.getElem?_cons_succ, List.set_cons_zero, List.set_cons_succ, Option.map_some, if_true, if_false, decide_eq_true_eq, Bool.not_eq_true, decide_true, decide_false, Bool.false_eq_true, Bool.not_true, Bool.not_false, and_true, true_and, and_false, false_and, List.map_cons, List.map_nil, List.replicate_succ, List.replicate_zero, List.cons_append, List.nil_append, List.length_cons, List.length_nil, List.append_nil, reduceCtorEq, Nat.reduceSub, Nat.reduceAdd, hasOwn, List.any_cons, List.any_nil, Bool.or_false, Bool.or_true, Bool.true_or, Bool.false_or, List.isEmpty_nil, ite_self, eq_self]
  refine (seq_nx (ρ' := [.val (.int c), .val (.int n), .val (.int (if c < 0 then -c else c)), .val (.bl (decide (K ≤ (if c < 0 then -c else c)))), .val (.int (if c < 0 then -c else c)), .own (.lst []), .no, .no]) ?_).trans ?_
  · simp only [x_seqS, x_nxS, x_bkS, x_ctS, x_retS, x_retNS, x_retV, x_ifS, x_asgS, x_slotOf, x_slotOf', x_opM, x_opI, x_ev0, x_ev1, x_ev2, x_sl1, x_sl2, x_retM, x_varM, x_f1, x_f2, x_boolM, x_truM, x_notM, x_andM, x_orM, x_iteM, x_tvM, x_lstM, x_tupM, x_forS, x_whileS, x_parS, x_par0, x_par1, x_appS, x_setS, x_setPS, x_dicM, x_callM, x_cmpEq, x_cmpNe, x_cmpLt, x_cmpLe, x_cmpGt, x_cmpGe, x_cmpIs, x_cmpIn, x_eqI, x_neI, x_ltI, x_leI, x_gtI, x_geI, x_isI, x_add, x_sub, x_mul, x_mod, x_div, x_xor, x_and, x_shr, x_neg, x_abs, x_int, x_isi, x_truB, x_mutI, x_mutB, x_mutL, x_mutT, x_indI, x_indB, x_len, x_lenT, x_lenS, x_andV, x_orV, x_extS, x_untS, x_augS, R.bind_ok, R.bind_exc, R.bind_bad, List.getElem?_cons_zero, List.getElem?_cons_succ, List.set_cons_zero, List.set_cons_succ, Option.map_some, if_true, if_false, decide_eq_true_eq, Bool.not_eq_true, decide_true, decide_false, Bool.false_eq_true, Bool.not_true, Bool.not_false, and_true, true_and, and_false, false_and, List.map_cons, List.map_nil, List.replicate_succ, List.replicate_zero, List.cons_append, List.nil_append, List.length_cons, List.length_nil, List.append_nil, reduceCtorEq, Nat.reduceSub, Nat.reduceAdd, hasOwn, List.any_cons, List.any_nil, Bool.or_false, Bool.or_true, Bool.true_or, Bool.false_or, List.isEmpty_nil, ite_self, eq_self]
  refine (seq_nx (ρ' := ρ') ((forI (ds := [.int n]) ?_ hrn).trans h1)).trans ?_
  · simp only [x_seqS, x_nxS, x_bkS, x_ctS, x_retS, x_retNS, x_retV, x_ifS, x_asgS, x_slotOf, x_slotOf', x_opM, x_opI, x_ev0, x_ev1, x_ev2, x_sl1, x_sl2, x_retM, x_varM, x_f1, x_f2, x_boolM, x_truM, x_notM, x_andM, x_orM, x_iteM, x_tvM, x_lstM, x_tupM, x_forS, x_whileS, x_parS, x_par0, x_par1, x_appS, x_setS, x_setPS, x_dicM, x_callM, x_cmpEq, x_cmpNe, x_cmpLt, x_cmpLe, x_cmpGt, x_cmpGe, x_cmpIs, x_cmpIn, x_eqI, x_neI, x_ltI, x_leI, x_gtI, x_geI, x_isI, x_add, x_sub, x_mul, x_mod, x_div, x_xor, x_and, x_shr, x_neg, x_abs, x_int, x_isi, x_truB, x_mutI, x_mutB, x_mutL, x_mutT, x_indI, x_indB, x_len, x_lenT, x_lenS, x_andV, x_orV, x_extS, x_untS, x_augS, R.bind_ok, R.bind_exc, R.bind_bad, List.getElem?_cons_zero, List.getElem?_cons_succ, List.set_cons_zero, List.set_cons_succ, Option.map_some, if_true, if_false, decide_eq_true_eq, Bool.not_eq_true, decide_true, decide_false, Bool.false_eq_true, Bool.not_true, Bool.not_false, and_true, true_and, and_false, false_and, List.map_cons, List.map_nil, List.replicate_succ, List.replicate_zero, List.cons_append, List.nil_append, List.length_cons, List.length_nil, List.append_nil, reduceCtorEq, Nat.reduceSub, Nat.reduceAdd, hasOwn, List.any_cons, List.any_nil, Bool.or_false, Bool.or_true, Bool.true_or, Bool.false_or, List.isEmpty_nil, ite_self, eq_self]
  · rw [h2]
    simp only [x_seqS, x_nxS, x_bkS, x_ctS, x_retS, x_retNS, x_retV, x_ifS, x_asgS, x_slotOf, x_slotOf', x_opM, x_opI, x_ev0, x_ev1, x_ev2, x_sl1, x_sl2, x_retM, x_varM, x_f1, x_f2, x_boolM, x_truM, x_notM, x_andM, x_orM, x_iteM, x_tvM, x_lstM, x_tupM, x_forS, x_whileS, x_parS, x_par0, x_par1, x_appS, x_setS, x_setPS, x_dicM, x_callM, x_cmpEq, x_cmpNe, x_cmpLt, x_cmpLe, x_cmpGt, x_cmpGe, x_cmpIs, x_cmpIn, x_eqI, x_neI, x_ltI, x_leI, x_gtI, x_geI, x_isI, x_add, x_sub, x_mul, x_mod, x_div, x_xor, x_and, x_shr, x_neg, x_abs, x_int, x_isi, x_truB, x_mutI, x_mutB, x_mutL, x_mutT, x_indI, x_indB, x_len, x_lenT, x_lenS, x_andV, x_orV, x_extS, x_untS, x_augS, R.bind_ok, R.bind_exc, R.bind_bad, List.getElem?_cons_zero, List.getElem?_cons_succ, List.set_cons_zero, List.set_cons_succ, Option.map_some, if_true, if_false, decide_eq_true_eq, Bool.not_eq_true, decide_true, decide_false, Bool.false_eq_true, Bool.not_true, Bool.not_false, and_true, true_and, and_false, false_and, List.map_cons, List.map_nil, List.replicate_succ, List.replicate_zero, List.cons_append, List.nil_append, List.length_cons, List.length_nil, List.append_nil, reduceCtorEq, Nat.reduceSub, Nat.reduceAdd, hasOwn, List.any_cons, List.any_nil, Bool.or_false, Bool.or_true, Bool.true_or, Bool.false_or, List.isEmpty_nil, ite_self, eq_self]
/-- the script's k-th cell, or a number in its place -/
def semCell (u v : Int) : Fn := runB 2
    (seqS (ifS (boolM (opM (f2 (cmpD .Lt)) [.va 1, .ex (opM (f1 lenD) [.va 0])]))
      (retS (opM (f2 ixD) [.va 0, .va 1]) false)
      nxS)
    (retS (opM (f2 addD) [.ex (opM (f2 mulD) [.ex (retM (.int u)), .va 1]), .ex (retM (.int v))]) true))
theorem cell_ok {u v : Int} (hu : -(2 ^ 64) < u ∧ u < 2 ^ 64) (ns : List Int) (k : Int) (hk : 0 ≤ k) : ∃ c : Int, semCell u v [.scr ns, .int k] = .ok (.int c) := by
  by_cases h : k < (ns.length : Int)
  · have hx : ixD (.scr ns) (.int k) = some (.int (ns[k.toNat]'(by omega))) := by
      show ((ixI ns.length k).bind fun j => ns[j]?.map D.int) = _
      rw [ixI_nn hk h]
      show ns[k.toNat]?.map D.int = _
      rw [List.getElem?_eq_getElem (by omega)]
      rfl
    refine ⟨ns[k.toNat]'(by omega), run_of (ρ := [.val (.scr ns), .val (.int k)]) ?_⟩
    simp only [x_seqS, x_nxS, x_bkS, x_ctS, x_retS, x_retNS, x_retV, x_ifS, x_asgS, x_slotOf, x_slotOf', x_opM, x_opI, x_ev0, x_ev1, x_ev2, x_sl1, x_sl2, x_retM, x_varM, x_f1, x_f2, x_boolM, x_truM, x_notM, x_andM, x_orM, x_iteM, x_tvM, x_lstM, x_tupM, x_forS, x_whileS, x_parS, x_par0, x_par1, x_appS, x_setS, x_setPS, x_dicM, x_callM, x_cmpEq, x_cmpNe, x_cmpLt, x_cmpLe, x_cmpGt, x_cmpGe, x_cmpIs, x_cmpIn, x_eqI, x_neI, x_ltI, x_leI, x_gtI, x_geI, x_isI, x_add, x_sub, x_mul, x_mod, x_div, x_xor, x_and, x_shr, x_neg, x_abs, x_int, x_isi, x_truB, x_mutI, x_mutB, x_mutL, x_mutT, x_indI, x_indB, x_len, x_lenT, x_lenS, x_andV, x_orV, x_extS, x_untS, x_augS, R.bind_ok, R.bind_exc, R.bind_bad, List.getElem?_cons_zero, List.getElem?_cons_succ, List.set_cons_zero, List.set_cons_succ, Option.map_some, if_true, if_false, decide_eq_true_eq, Bool.not_eq_true, decide_true, decide_false, Bool.false_eq_true, Bool.not_true, Bool.not_false, and_true, true_and, and_false, false_and, List.map_cons, List.map_nil, List.replicate_succ, List.replicate_zero, List.cons_append, List.nil_append, List.length_cons, List.length_nil, List.append_nil, reduceCtorEq, Nat.reduceSub, Nat.reduceAdd, hasOwn, List.any_cons, List.any_nil, Bool.or_false, Bool.or_true, Bool.true_or, Bool.false_or, List.isEmpty_nil, ite_self, eq_self, h, hx]
  · have m : MulOk u k := mulOk_l hu
    refine ⟨u * k + v, run_of (ρ := [.val (.scr ns), .val (.int k)]) ?_⟩
    simp only [x_seqS, x_nxS, x_bkS, x_ctS, x_retS, x_retNS, x_retV, x_ifS, x_asgS, x_slotOf, x_slotOf', x_opM, x_opI, x_ev0, x_ev1, x_ev2, x_sl1, x_sl2, x_retM, x_varM, x_f1, x_f2, x_boolM, x_truM, x_notM, x_andM, x_orM, x_iteM, x_tvM, x_lstM, x_tupM, x_forS, x_whileS, x_parS, x_par0, x_par1, x_appS, x_setS, x_setPS, x_dicM, x_callM, x_cmpEq, x_cmpNe, x_cmpLt, x_cmpLe, x_cmpGt, x_cmpGe, x_cmpIs, x_cmpIn, x_eqI, x_neI, x_ltI, x_leI, x_gtI, x_geI, x_isI, x_add, x_sub, x_mul, x_mod, x_div, x_xor, x_and, x_shr, x_neg, x_abs, x_int, x_isi, x_truB, x_mutI, x_mutB, x_mutL, x_mutT, x_indI, x_indB, x_len, x_lenT, x_lenS, x_andV, x_orV, x_extS, x_untS, x_augS, R.bind_ok, R.bind_exc, R.bind_bad, List.getElem?_cons_zero, List.getElem?_cons_succ, List.set_cons_zero, List.set_cons_succ, Option.map_some, if_true, if_false, decide_eq_true_eq, Bool.not_eq_true, decide_true, decide_false, Bool.false_eq_true, Bool.not_true, Bool.not_false, and_true, true_and, and_false, false_and, List.map_cons, List.map_nil, List.replicate_succ, List.replicate_zero, List.cons_append, List.nil_append, List.length_cons, List.length_nil, List.append_nil, reduceCtorEq, Nat.reduceSub, Nat.reduceAdd, hasOwn, List.any_cons, List.any_nil, Bool.or_false, Bool.or_true, Bool.true_or, Bool.false_or, List.isEmpty_nil, ite_self, eq_self, h, m]
def semIsInt : Fn := runB 1 (retS (andV (opM (f1 (isiD "int")) [.va 0]) (tvM (notM (truM (.ex (opM (f1 (isiD "bool")) [.va 0])))))) false)
theorem isint_ok (d : D) : semIsInt [d] = .ok (.bl (isiB "int" d && !isiB "bool" d)) := by
  cases d <;> rfl
/-- value is due, itself again within: by its own meaning g one level below -/
def semIs (g h : Fn) : Fn := runB 3
    (seqS (ifS (boolM (opM (f2 (cmpD .Is)) [.va 1, .ex (retM (.non))]))
      (retS (opM (f2 (cmpD .Is)) [.va 0, .ex (retM (.non))]) true)
      nxS)
    (seqS (ifS (truM (.ex (opM (f1 (isiD "bool")) [.va 1])))
      (retS (andV (opM (f1 (isiD "bool")) [.va 0]) (opM (f2 (cmpD .Eq)) [.va 0, .va 1])) false)
      nxS)
    (seqS (ifS (truM (.ex (opM (f1 (isiD "int")) [.va 1])))
      (retS (andV (callM h [.va 0]) (opM (f2 (cmpD .Eq)) [.va 0, .va 1])) false)
      nxS)
    (seqS (ifS (truM (.ex (opM (f1 (isiD "str")) [.va 1])))
      (retS (andV (opM (f1 (isiD "str")) [.va 0]) (opM (f2 (cmpD .Eq)) [.va 0, .va 1])) false)
      nxS)
    (seqS (ifS (orM (notM (truM (.ex (opM (f1 (isiD "tuple")) [.va 0])))) (boolM (opM (f2 (cmpD .NotEq)) [.ex (opM (f1 lenD) [.va 0]), .ex (opM (f1 lenD) [.va 1])])))
      (retS (retM (.bl false)) false)
      nxS)
    (retS (opM (f1 allD) [.ex (compM (opI rng1 [.ex (opM (f1 lenD) [.va 1])]) [2] (.nm 2) yesM (callM g [.ex (opM (f2 ixD) [.va 0, .va 2]), .ex (opM (f2 ixD) [.va 1, .va 2])]))]) true))))))
theorem is_int {g h : Fn} (hh : ∀ d, h [d] = .ok (.bl (isiB "int" d && !isiB "bool" d))) (i j : Int) : semIs g h [.int i, .int j] = .ok (.bl (decide (i = j))) := by
  have e : h [.int i] = .ok (.bl true) := hh _
  refine run_of (ρ := [.val (.int i), .val (.int j), .no]) ?_
  simp only [x_seqS, x_nxS, x_bkS, x_ctS, x_retS, x_retNS, x_retV, x_ifS, x_asgS, x_slotOf, x_slotOf', x_opM, x_opI, x_ev0, x_ev1, x_ev2, x_sl1, x_sl2, x_retM, x_varM, x_f1, x_f2, x_boolM, x_truM, x_notM, x_andM, x_orM, x_iteM, x_tvM, x_lstM, x_tupM, x_forS, x_whileS, x_parS, x_par0, x_par1, x_appS, x_setS, x_setPS, x_dicM, x_callM, x_cmpEq, x_cmpNe, x_cmpLt, x_cmpLe, x_cmpGt, x_cmpGe, x_cmpIs, x_cmpIn, x_eqI, x_neI, x_ltI, x_leI, x_gtI, x_geI, x_isI, x_add, x_sub, x_mul, x_mod, x_div, x_xor, x_and, x_shr, x_neg, x_abs, x_int, x_isi, x_truB, x_mutI, x_mutB, x_mutL, x_mutT, x_indI, x_indB, x_len, x_lenT, x_lenS, x_andV, x_orV, x_extS, x_untS, x_augS, R.bind_ok, R.bind_exc, R.bind_bad, List.getElem?_cons_zero, List.getElem?_cons_succ, List.set_cons_zero, List.set_cons_succ, Option.map_some, if_true, if_false, decide_eq_true_eq, Bool.not_eq_true, decide_true, decide_false, Bool.false_eq_true, Bool.not_true, Bool.not_false, and_true, true_and, and_false, false_and, List.map_cons, List.map_nil, List.replicate_succ, List.replicate_zero, List.cons_append, List.nil_append, List.length_cons, List.length_nil, List.append_nil, reduceCtorEq, Nat.reduceSub, Nat.reduceAdd, hasOwn, List.any_cons, List.any_nil, Bool.or_false, Bool.or_true, Bool.true_or, Bool.false_or, List.isEmpty_nil, ite_self, eq_self, e, show isiB "bool" (.int j) = false from rfl, show isiB "int" (.int j) = true from rfl]
/-! ### lists of ints -/
theorem toPys_ints : ∀ ns : List Int, toPys (ns.map D.int) = ns.map PyData.int
  | [] => rfl
  | n :: ns => by
    show toPy (.int n) :: toPys (ns.map D.int) = _
    rw [toPys_ints ns]
    rfl
theorem nodics_ints : ∀ ns : List Int, nodics (ns.map D.int) = true
  | [] => rfl
  | n :: ns => by
    show (nodic (.int n) && nodics (ns.map D.int)) = true
    rw [nodics_ints ns]
    rfl
theorem shaped_lint (ns : List Int) : shaped? (.lst (ns.map D.int)) = true := by
  show (nodics (ns.map D.int) && SeqAt.shaped (.list (toPys (ns.map D.int)))) = true
  rw [toPys_ints, nodics_ints, PySem.W.ke_shaped_ints]
  rfl
theorem shaped_int (i : Int) : shaped? (.int i) = true := rfl
theorem any_ints (x : Int) : ∀ ns : List Int, ((ns.map D.int).any fun z => PyData.eqv (toPy z) (toPy (.int x))) = decide (x ∈ ns)
  | [] => rfl
  | n :: ns => by
    rw [List.map_cons, List.any_cons, any_ints x ns]
    show ((n == x) || decide (x ∈ ns)) = _
    by_cases h : n = x
    · subst h; simp
    · have h' : ¬ x = n := fun e => h e.symm
      simp [h, h']
theorem in_ints (x : Int) (ns : List Int) : inB' (.int x) (.lst (ns.map D.int)) = some (decide (x ∈ ns)) := by
  show (if shaped? (.int x) && shaped? (.lst (ns.map D.int)) then some ((ns.map D.int).any fun z => PyData.eqv (toPy z) (toPy (.int x))) else none) = _
  rw [shaped_lint, shaped_int, any_ints]
  rfl
theorem firstB_ints (x : Int) : ∀ (ns : List Int) (i j : Nat), ns[j]? = some x → (∀ m, m < j → ns[m]? ≠ some x) → firstB (.int x) (ns.map PyData.int) i = some (i + j)
  | [], i, j, h, _ => by simp at h
  | n :: ns, i, 0, h, _ => by
    have : n = x := by simpa using h
    subst this
    show (if (n == n) = true then some i else _) = _
    simp
  | n :: ns, i, j + 1, h, hn => by
    have h0 : ¬ n = x := fun e => hn 0 (by omega) (by rw [e]; rfl)
    show (if (n == x) = true then some i else firstB (.int x) (ns.map PyData.int) (i + 1)) = _
    rw [if_neg (by simpa using h0), firstB_ints x ns (i + 1) j (by simpa using h) fun m hm => by
      have := hn (m + 1) (by omega)
      simpa using this]
    congr 1
    omega
theorem index_ints {ns : List Int} {x : Int} {j : Nat} (h : ns[j]? = some x) (hn : ∀ m, m < j → ns[m]? ≠ some x) : indexB (ns.map D.int) (.int x) = some j := by
  unfold indexB
  rw [shaped_lint, shaped_int]
  show firstB (.int x) (toPys (ns.map D.int)) 0 = some j
  rw [toPys_ints, firstB_ints x ns 0 j h hn, Nat.zero_add]
theorem x_idxM (i : Nat) (m : M D) (ρ : En) : idxM i m ρ = match slD ρ[i]? with
  | some (.lst _) => (m ρ).bind fun d ρ' => (match slD ρ'[i]? with
    | some (.lst ds) => (match indexB ds d with
      | some j => .ok (.int (j : Nat)) ρ'
      | none => .bad)
    | _ => .bad)
  | _ => .bad := Eq.trans rfl rfl
end Dv
namespace Dv
open PySem PyProof.Rows L2
/-! ### comprehensions over one name -/
theorem compL_ok {v : Nat} {elt : M D} {ρ : En} (F : D → D) (hv : v < ρ.length) (hn : ρ[v]? = some .no) : ∀ (ds : List D), (∀ d ∈ ds, elt (ρ.set v (.val d)) = .ok (F d) (ρ.set v (.val d))) → compL [v] (.nm v) yesM elt ds ρ = .ok (ds.map F) ρ
  | [], _ => rfl
  | d :: ds, h => by
    have e : (ρ.set v (.val d)).set v .no = ρ := by
      rw [List.set_set]
      apply List.ext_getElem?
      intro j
      by_cases hj : v = j
      · subst hj; rw [List.getElem?_set_self hv, hn]
      · rw [List.getElem?_set_ne hj]
    unfold compL
    simp only [bindT, yesM, h d List.mem_cons_self]
    show (match compL [v] (.nm v) yesM elt ds ((ρ.set v (.val d)).set v .no) with
          | .ok es ρ4 => R.ok (F d :: es) ρ4
          | .exc x ρ4 => .exc x ρ4
          | .bad => .bad) = _
    rw [e, compL_ok F hv hn ds fun d' h' => h d' (List.mem_cons_of_mem _ h')]
    rfl
theorem compM_ok {v : Nat} {mi : M (List D)} {elt : M D} {ρ : En} {ds : List D} (F : D → D) (hm : mi ρ = .ok ds ρ) (hf : freeSlots [v] ρ = true) (hl : ds.length ≤ 16000000) (hv : v < ρ.length) (he : ∀ d ∈ ds, elt (ρ.set v (.val d)) = .ok (F d) (ρ.set v (.val d))) :
    compM mi [v] (.nm v) yesM elt ρ = .ok (.lst (ds.map F)) ρ := by
  unfold compM
  rw [hm, R.bind_ok, if_pos ⟨hf, hl⟩]
  have h1 : compL [v] (.nm v) yesM elt ds (ρ.set v .no) = .ok (ds.map F) (ρ.set v .no) := by
    refine compL_ok F (by rw [List.length_set]; exact hv) (List.getElem?_set_self hv) ds fun d hd => ?_
    rw [List.set_set]
    exact he d hd
  show (match compL [v] (.nm v) yesM elt ds (ρ.set v .no) with
    | .ok es ρ2 => R.ok (D.lst es) (restore [v] ρ ρ2)
    | _ => .bad) = _
  rw [h1]
  show R.ok (D.lst (ds.map F)) ((ρ.set v .no).set v ((ρ[v]?).getD .no)) = _
  congr 1
  rw [List.set_set]
  apply List.ext_getElem?
  intro j
  by_cases hj : v = j
  · subst hj; rw [List.getElem?_set_self hv, List.getElem?_eq_getElem hv]; rfl
  · rw [List.getElem?_set_ne hj]
/-! ### texts by their signs -/
abbrev ofC (l : List Nat) : Str := ⟨l.toArray⟩
theorem ofC_len (l : List Nat) : (ofC l).length = l.length := by
  show l.toArray.size = _
  simp
theorem ofC_app (a b : List Nat) : ofC a ++ ofC b = ofC (a ++ b) := by
  show (⟨a.toArray ++ b.toArray⟩ : Str) = ⟨(a ++ b).toArray⟩
  rw [List.append_toArray]
theorem addC {a b : List Nat} (h : a.length + b.length ≤ 16000000) : addD (.str (ofC a)) (.str (ofC b)) = some (.str (ofC (a ++ b))) := by
  show (if (ofC a).length + (ofC b).length ≤ sizeLine then some (D.str (ofC a ++ ofC b)) else none) = _
  rw [ofC_len, ofC_len, if_pos (by rw [sizeLine_eq]; omega), ofC_app]
theorem lenC {a : List Nat} (h : a.length ≤ 16000000) : lenD (.str (ofC a)) = some (.int (a.length : Nat)) := by
  show (if (ofC a).length ≤ sizeLine then some (D.int ((ofC a).length : Nat)) else none) = _
  rw [ofC_len, if_pos (by rw [sizeLine_eq]; omega)]
theorem seqC (a : List Nat) : seqD (.str (ofC a)) = some (a.map fun c => D.str (ofC [c])) := by
  show some ((a.toArray.toList).map fun c => D.str ⟨#[c]⟩) = _
  rw [List.toList_toArray]
theorem sliceC {a : List Nat} (h : a.length ≤ 16000000) (lo hi : Option Int) : slD3 (.str (ofC a)) lo hi = some (.str (ofC (cutL a lo hi))) := by
  show (if (ofC a).length ≤ sizeLine then some (D.str ⟨(cutL a.toArray.toList lo hi).toArray⟩) else none) = _
  rw [ofC_len, if_pos (by rw [sizeLine_eq]; omega), List.toList_toArray]
theorem ixC {a : List Nat} {i c : Nat} (hl : a.length ≤ 16000000) (h : a[i]? = some c) : ixD (.str (ofC a)) (.int (i : Int)) = some (.str (ofC [c])) := by
  have hi := (List.getElem?_eq_some_iff.mp h).1
  show (if (ofC a).length ≤ sizeLine then (ixI (ofC a).length (i : Int)).bind fun j => (a.toArray.toList[j]?).map fun c => D.str ⟨#[c]⟩ else none) = _
  rw [ofC_len, if_pos (by rw [sizeLine_eq]; omega), ixI_nn (by omega) (by omega), List.toList_toArray, Int.toNat_natCast]
  show (a[i]?).map _ = _
  rw [h]
  rfl
theorem ofC_ne {a b : Nat} : neD (.str (ofC [a])) (.str (ofC [b])) = some (.bl (!decide (a = b))) := by
  show some (D.bl (!decide (ofC [a] = ofC [b]))) = _
  congr 3
  by_cases h : a = b
  · subst h; simp
  · simp [h]
theorem ofC_eq {a b : Nat} : eqD (.str (ofC [a])) (.str (ofC [b])) = some (.bl (decide (a = b))) := by
  show some (D.bl (decide (ofC [a] = ofC [b]))) = _
  congr 2
  by_cases h : a = b
  · subst h; simp
  · simp [h]
/-! ### parts -/
theorem cut_to {α : Type} (l : List α) {i : Nat} (h : i ≤ l.length) : cutL l none (some (i : Int)) = l.take i := by
  unfold cutL
  have : HT.sIx l.length l.length (some (i : Int)) = i := by rw [HT.sIx_nat]; omega
  rw [this]
  show (l.drop 0).take (i - 0) = _
  simp
theorem cut_from {α : Type} (l : List α) {i : Nat} (h : i ≤ l.length) : cutL l (some (i : Int)) none = l.drop i := by
  unfold cutL
  have : HT.sIx l.length 0 (some (i : Int)) = i := by rw [HT.sIx_nat]; omega
  rw [this]
  show (l.drop i).take (l.length - i) = _
  rw [List.take_of_length_le (by rw [List.length_drop]; exact Nat.le_refl _)]
theorem cut_mid {α : Type} (l : List α) {i j : Nat} (h : i ≤ j) (hj : j ≤ l.length) : cutL l (some (i : Int)) (some (j : Int)) = (l.drop i).take (j - i) := by
  unfold cutL
  have h1 : HT.sIx l.length 0 (some (i : Int)) = i := by rw [HT.sIx_nat]; omega
  have h2 : HT.sIx l.length l.length (some (j : Int)) = j := by rw [HT.sIx_nat]; omega
  rw [h1, h2]
/-! ### joined texts -/
theorem foldl_glue : ∀ (ls : List (List Nat)) (acc : Array Nat), (ls.map ofC).foldl (fun acc p => acc ++ (Str.ofString "").cps ++ p.cps) acc = acc ++ ls.flatten.toArray
  | [], acc => by simp
  | l :: ls, acc => by
    have e : (Str.ofString "").cps = #[] := by decide +kernel
    show (ls.map ofC).foldl _ (acc ++ (Str.ofString "").cps ++ l.toArray) = _
    rw [foldl_glue ls, e]
    simp
theorem glue_ofC (ls : List (List Nat)) : Txt.join "" (ls.map ofC) = ofC ls.flatten := by
  cases ls with
  | nil => rfl
  | cons l ls =>
    show (⟨(ls.map ofC).foldl (fun acc p => acc ++ (Str.ofString "").cps ++ p.cps) l.toArray⟩ : Str) = _
    rw [foldl_glue]
    first | done | simp
theorem joinC {ls : List (List Nat)} (h : ls.flatten.length ≤ 16000000) : joinD (.str "") (.lst (ls.map fun l => D.str (ofC l))) = some (.str (ofC ls.flatten)) := by
  have e : (ls.map fun l => D.str (ofC l)) = (ls.map ofC).map D.str := by rw [List.map_map]; rfl
  show joinB "" (ls.map fun l => D.str (ofC l)) = _
  rw [e]
  unfold joinB
  rw [strsOf_map]
  have h1 : ((ls.map ofC).map (·.length)).sum = ls.flatten.length := by
    rw [List.map_map, List.length_flatten]
    congr 1
    try (apply List.map_congr_left; intro l _; exact ofC_len l)
  have h2 : (Str.ofString "").length = 0 := by decide +kernel
  show (if ((ls.map ofC).map (·.length)).sum + (ls.map ofC).length * (Str.ofString "").length ≤ 16777216 then some (D.str (Txt.join "" (ls.map ofC))) else none) = _
  rw [h1, h2, if_pos (by omega), glue_ofC]
end Dv
namespace Dv
open PySem PyProof.Rows L2
theorem forL_cons {t : Tg} {s : S} {d : D} {ds : List D} {ρ ρ1 ρ2 : En} (hb : bindT t d ρ = some ρ1) (hs : s ρ1 = .ok .nx ρ2) : forL t s (d :: ds) ρ = forL t s ds ρ2 := by
  have e : forL t s (d :: ds) ρ = (match bindT t d ρ with
    | none => .bad
    | some ρ1 => (match s ρ1 with
      | .ok .nx ρ2 => forL t s ds ρ2
      | .ok .ct ρ2 => forL t s ds ρ2
      | .ok .bk ρ2 => .ok .nx ρ2
      | .ok (.ret d) ρ2 => .ok (.ret d) ρ2
      | .exc x ρ2 => .exc x ρ2
      | .bad => .bad)) := rfl
  rw [e, hb]
  simp only [hs]
theorem forSeq {m : M D} {t : Tg} {s : S} {ρ ρ1 : En} {d : D} {zs : List D} (h1 : m ρ = .ok d ρ1) (h2 : seqD d = some zs) : forS (seqM m) t s ρ = forL t s zs ρ1 := by
  unfold forS seqM
  rw [h1]
  simp only [R.bind_ok, h2]
theorem seq_for {m : M D} {t : Tg} {s s2 : S} {ρ ρ1 ρ2 : En} {d : D} {zs : List D} (h1 : m ρ = .ok d ρ1) (h2 : seqD d = some zs) (h3 : forL t s zs ρ1 = .ok .nx ρ2) : seqS (forS (seqM m) t s) s2 ρ = s2 ρ2 := seq_nx ((forSeq h1 h2).trans h3)
theorem seq_forI {f : List D → Option (List D)} {os : List Opd} {t : Tg} {s s2 : S} {ρ ρ1 ρ2 : En} {ds zs : List D} (h1 : evO os ρ = .ok ds ρ1) (h2 : f ds = some zs) (h3 : forL t s zs ρ1 = .ok .nx ρ2) : seqS (forS (opI f os) t s) s2 ρ = s2 ρ2 := seq_nx ((forI h1 h2).trans h3)
/-! ### rows of ints -/
abbrev tI (l : List Int) : D := .tup (l.map D.int)
abbrev lI (l : List Int) : D := .lst (l.map D.int)
theorem intsOf_ints : ∀ l : List Int, intsOf (l.map D.int) = some l
  | [] => rfl
  | n :: l => by
    show (intsOf (D.int n :: l.map D.int)) = _
    unfold intsOf
    rw [intsOf_ints l]
    rfl
theorem sum_tI (l : List Int) : sumD (tI l) = some (.int l.sum) := by
  show (intsOf (l.map D.int)).map (fun ns => D.int ns.sum) = _
  rw [intsOf_ints]
  rfl
theorem sum_lI (l : List Int) : sumD (lI l) = some (.int l.sum) := by
  show (intsOf (l.map D.int)).map (fun ns => D.int ns.sum) = _
  rw [intsOf_ints]
  rfl
theorem sort_tI (l : List Int) : sortedD (tI l) = some (lI (sortI l)) := by
  show (intsOf (l.map D.int)).map (fun ns => D.lst ((sortI ns).map D.int)) = _
  rw [intsOf_ints]
  rfl
theorem len_tI (l : List Int) : lenD (tI l) = some (.int (l.length : Nat)) := by
  show some (D.int ((l.map D.int).length : Nat)) = _
  rw [List.length_map]
theorem len_lI (l : List Int) : lenD (lI l) = some (.int (l.length : Nat)) := by
  show some (D.int ((l.map D.int).length : Nat)) = _
  rw [List.length_map]
theorem ix_tI {l : List Int} {i : Nat} {x : Int} (h : l[i]? = some x) : ixD (tI l) (.int (i : Nat)) = some (.int x) := by
  have hi := (List.getElem?_eq_some_iff.mp h).1
  show ((ixI (l.map D.int).length (i : Int)).bind fun j => (l.map D.int)[j]?) = _
  rw [List.length_map, ixI_nn (by omega) (by omega)]
  show (l.map D.int)[(i : Int).toNat]? = _
  rw [Int.toNat_natCast, List.getElem?_map, h]
  rfl
theorem ix_lI {l : List Int} {i : Nat} {x : Int} (h : l[i]? = some x) : ixD (lI l) (.int (i : Nat)) = some (.int x) := by
  have hi := (List.getElem?_eq_some_iff.mp h).1
  show ((ixI (l.map D.int).length (i : Int)).bind fun j => (l.map D.int)[j]?) = _
  rw [List.length_map, ixI_nn (by omega) (by omega)]
  show (l.map D.int)[(i : Int).toNat]? = _
  rw [Int.toNat_natCast, List.getElem?_map, h]
  rfl
theorem cut_toN {α : Type} (l : List α) (i : Nat) : cutL l none (some (i : Int)) = l.take i := by
  by_cases h : i ≤ l.length
  · exact cut_to l h
  · unfold cutL
    have : HT.sIx l.length l.length (some (i : Int)) = l.length := by rw [HT.sIx_nat]; omega
    rw [this]
    show (l.drop 0).take (l.length - 0) = _
    rw [List.drop_zero, Nat.sub_zero, List.take_length, List.take_of_length_le (by omega)]
theorem cut_fromN {α : Type} (l : List α) (i : Nat) : cutL l (some (i : Int)) none = l.drop i := by
  by_cases h : i ≤ l.length
  · exact cut_from l h
  · unfold cutL
    have : HT.sIx l.length 0 (some (i : Int)) = l.length := by rw [HT.sIx_nat]; omega
    rw [this]
    show (l.drop l.length).take (l.length - l.length) = _
    rw [Nat.sub_self, List.take_zero, List.drop_of_length_le (by omega)]
theorem slH_eq (d : D) (i : Int) : slH [d, .int i] = slD3 d none (some i) := rfl
theorem slL_eq (d : D) (i : Int) : slL [d, .int i] = slD3 d (some i) none := rfl
theorem slH_tI (l : List Int) (i : Nat) : slH [tI l, .int (i : Nat)] = some (tI (l.take i)) := by
  rw [slH_eq]
  show some (D.tup (cutL _ none (some (i : Int)))) = _
  rw [cut_toN, ← List.map_take]
theorem slL_tI (l : List Int) (i : Nat) : slL [tI l, .int (i : Nat)] = some (tI (l.drop i)) := by
  rw [slL_eq]
  show some (D.tup (cutL _ (some (i : Int)) none)) = _
  rw [cut_fromN, ← List.map_drop]
theorem slH_lI (l : List Int) (i : Nat) : slH [lI l, .int (i : Nat)] = some (lI (l.take i)) := by
  rw [slH_eq]
  show some (D.lst (cutL _ none (some (i : Int)))) = _
  rw [cut_toN, ← List.map_take]
theorem slL_lI (l : List Int) (i : Nat) : slL [lI l, .int (i : Nat)] = some (lI (l.drop i)) := by
  rw [slL_eq]
  show some (D.lst (cutL _ (some (i : Int)) none)) = _
  rw [cut_fromN, ← List.map_drop]
theorem add_tt {a b : List D} (h : a.length + b.length ≤ 16000000) : addD (.tup a) (.tup b) = some (.tup (a ++ b)) := by
  show (if a.length + b.length ≤ sizeLine then some (D.tup (a ++ b)) else none) = _
  rw [if_pos (by rw [sizeLine_eq]; omega)]
theorem mul_tup (a : List D) (k : Int) (hc : -(2 ^ 63) ≤ k ∧ k < 2 ^ 63 ∧ a.length * k.toNat ≤ 16000000) : mulD (.tup a) (.int k) = some (.tup (List.replicate k.toNat a).flatten) := if_pos hc
theorem mul_lst (a : List D) (k : Int) (hc : -(2 ^ 63) ≤ k ∧ k < 2 ^ 63 ∧ a.length * k.toNat ≤ sizeLine) : mulD (.lst a) (.int k) = some (.lst (List.replicate k.toNat a).flatten) := if_pos hc
theorem rep_one (x : Int) : ∀ n : Nat, (List.replicate n [D.int x]).flatten = (List.replicate n x).map D.int
  | 0 => rfl
  | n + 1 => by rw [List.replicate_succ, List.flatten_cons, rep_one x n, List.replicate_succ]; rfl
theorem mul_t (x : Int) {n : Nat} (h : n ≤ 10000) : mulD (.tup [.int x]) (.int (n : Nat)) = some (tI (List.replicate n x)) := by
  have e := mul_tup [.int x] (n : Int) ⟨by omega, by omega, by rw [Int.toNat_natCast]; show 1 * n ≤ _; omega⟩
  rw [Int.toNat_natCast, rep_one] at e
  exact e
theorem mul_l (x : Int) {n : Nat} (h : n ≤ 10000) : mulD (.lst [.int x]) (.int (n : Nat)) = some (lI (List.replicate n x)) := by
  have e := mul_lst [.int x] (n : Int) ⟨by omega, by omega, by rw [Int.toNat_natCast, sizeLine_eq]; show 1 * n ≤ _; omega⟩
  rw [Int.toNat_natCast, rep_one] at e
  exact e
theorem tup_l (l : List D) : tupleD (.lst l) = some (.tup l) := Eq.trans rfl rfl
theorem tup_t (l : List D) : tupleD (.tup l) = some (.tup l) := Eq.trans rfl rfl
theorem seq_t (l : List D) : seqD (.tup l) = some l := Eq.trans rfl rfl
theorem seq_l (l : List D) : seqD (.lst l) = some l := Eq.trans rfl rfl
/-! ### is -/
theorem ret_okM {m : M D} {fr : Bool} {ρ ρ' : En} {d : D} (h : m ρ = .ok d ρ') (hm : isMut d = false) : retS m fr ρ = .ok (.ret d) ρ' := by
  unfold retS
  rw [h, R.bind_ok, hm]
  exact if_neg (fun z => Bool.noConfusion z.2)
theorem opM_of {f : List D → Option D} {os : List Opd} {ρ ρ' : En} {ds : List D} {r : D} (h : evO os ρ = .ok ds ρ') (hf : f ds = some r) : opM f os ρ = .ok r ρ' := by
  unfold opM
  rw [h]
  simp only [R.bind_ok, hf]
theorem opM2_of {f : D → D → Option D} {os : List Opd} {ρ ρ' : En} {a b r : D} (h : evO os ρ = .ok [a, b] ρ') (hf : f a b = some r) : opM (f2 f) os ρ = .ok r ρ' := opM_of h ((x_f2 f a b).trans hf)
theorem asg_okM {i : Nat} {m : M D} {fr : Bool} {ρ ρ' : En} {d : D} (h : m ρ = .ok d ρ') : asgS i m fr ρ = .ok .nx (ρ'.set i (slotOf fr d)) := by
  unfold asgS
  rw [h]
  rfl
theorem callM_of {f : Fn} {os : List Opd} {ρ ρ' : En} {ds : List D} {r : D} (h : evO os ρ = .ok ds ρ') (ho : hasOwn os ρ' = false) (hf : f ds = .ok r) : callM f os ρ = .ok r ρ' := by
  unfold callM
  rw [h]
  simp only [R.bind_ok, hf, ho]
  rfl
theorem ifS_true {c : M Bool} {s t : S} {ρ ρ1 : En} (h : c ρ = .ok true ρ1) : ifS c s t ρ = s ρ1 := by
  unfold ifS
  rw [h]
  rfl
theorem ifS_false {c : M Bool} {s t : S} {ρ ρ1 : En} (h : c ρ = .ok false ρ1) : ifS c s t ρ = t ρ1 := by
  unfold ifS
  rw [h]
  rfl
theorem ret_fresh {m : M D} {ρ ρ' : En} {d : D} (h : m ρ = .ok d ρ') : retS m true ρ = .ok (.ret d) ρ' := by
  unfold retS
  rw [h, R.bind_ok]
  exact if_neg (fun z => Bool.noConfusion z.1)
theorem seq_ret {s t : S} {ρ ρ' : En} {d : D} (h : s ρ = .ok (.ret d) ρ') : seqS s t ρ = .ok (.ret d) ρ' := by
  unfold seqS
  rw [h]
theorem opM1 {f : List D → Option D} {m : M D} {ρ ρ' : En} {d r : D} (h : m ρ = .ok d ρ') (hf : f [d] = some r) : opM f [.ex m] ρ = .ok r ρ' := by
  unfold opM evO
  rw [h]
  simp only [R.bind_ok, x_ev0, hf]
theorem allD_map {α : Type} (l : List α) (p : α → Bool) : f1 allD [.lst (l.map fun a => D.bl (p a))] = some (.bl (l.all p)) := by
  have e : ∀ l : List α, blsOf (l.map fun a => D.bl (p a)) = some (l.map p) := fun l => by
    induction l with
    | nil => rfl
    | cons a l ih =>
      show blsOf (D.bl (p a) :: l.map fun a => D.bl (p a)) = _
      unfold blsOf
      rw [ih]
      rfl
  show (blsOf (l.map fun a => D.bl (p a))).map (fun bs => D.bl (bs.all id)) = _
  rw [e]
  show some (D.bl ((l.map p).all id)) = _
  rw [List.all_map]
  rfl
theorem is_bool {g h : Fn} (i j : Bool) : semIs g h [.bl i, .bl j] = .ok (.bl (decide (i = j))) := by
  refine run_of (ρ := [.val (.bl i), .val (.bl j), .no]) ?_
  cases i <;> cases j <;> rfl
theorem is_elt (g : Fn) (x y a b : D) (i : Int) (r : Bool) (h1 : ixD x (.int i) = some a) (h2 : ixD y (.int i) = some b) (h3 : g [a, b] = .ok (.bl r)) : callM g [.ex (opM (f2 ixD) [.va 0, .va 2]), .ex (opM (f2 ixD) [.va 1, .va 2])] [.val x, .val y, .val (.int i)] = .ok (.bl r) [.val x, .val y, .val (.int i)] := by
  generalize ixD = f at h1 h2 ⊢
  simp only [x_seqS, x_nxS, x_bkS, x_ctS, x_retS, x_retNS, x_retV, x_ifS, x_asgS, x_slotOf, x_slotOf', x_opM, x_opI, x_ev0, x_ev1, x_ev2, x_sl1, x_sl2, x_retM, x_varM, x_f1, x_f2, x_boolM, x_truM, x_notM, x_andM, x_orM, x_iteM, x_tvM, x_lstM, x_tupM, x_forS, x_whileS, x_parS, x_par0, x_par1, x_appS, x_setS, x_setPS, x_dicM, x_callM, x_cmpEq, x_cmpNe, x_cmpLt, x_cmpLe, x_cmpGt, x_cmpGe, x_cmpIs, x_cmpIn, x_eqI, x_neI, x_ltI, x_leI, x_gtI, x_geI, x_isI, x_add, x_sub, x_mul, x_mod, x_div, x_xor, x_and, x_shr, x_neg, x_abs, x_int, x_isi, x_truB, x_mutI, x_mutB, x_mutL, x_mutT, x_indI, x_indB, x_len, x_lenT, x_lenS, x_andV, x_orV, x_extS, x_untS, x_augS, R.bind_ok, R.bind_exc, R.bind_bad, List.getElem?_cons_zero, List.getElem?_cons_succ, List.set_cons_zero, List.set_cons_succ, Option.map_some, if_true, if_false, decide_eq_true_eq, Bool.not_eq_true, decide_true, decide_false, Bool.false_eq_true, Bool.not_true, Bool.not_false, and_true, true_and, and_false, false_and, List.map_cons, List.map_nil, List.replicate_succ, List.replicate_zero, List.cons_append, List.nil_append, List.length_cons, List.length_nil, List.append_nil, reduceCtorEq, Nat.reduceSub, Nat.reduceAdd, hasOwn, List.any_cons, List.any_nil, Bool.or_false, Bool.or_true, Bool.true_or, Bool.false_or, List.isEmpty_nil, ite_self, eq_self, h1, h2, h3]
theorem ix_tup {l : List D} {i : Nat} {x : D} (h : l[i]? = some x) : ixD (.tup l) (.int (i : Nat)) = some x := by
  have hi := (List.getElem?_eq_some_iff.mp h).1
  show ((ixI l.length (i : Int)).bind fun j => l[j]?) = _
  rw [ixI_nn (by omega) (by omega)]
  exact h
theorem opI1 {f : List D → Option (List D)} {m : M D} {ρ ρ' : En} {d : D} {r : List D} (h : m ρ = .ok d ρ') (hf : f [d] = some r) : opI f [.ex m] ρ = .ok r ρ' := by
  unfold opI evO
  rw [h]
  simp only [R.bind_ok, x_ev0, hf]
/-- two tuples of one length: all pairs of items -/
theorem is_tup {g h : Fn} {as bs : List D} (p : Nat → Bool) (hl : as.length = bs.length) (hm : bs.length ≤ 10000) (hg : ∀ i a b, as[i]? = some a → bs[i]? = some b → g [a, b] = .ok (.bl (p i))) :
    semIs g h [.tup as, .tup bs] = .ok (.bl ((List.range bs.length).all p)) := by
  have hc := compM_ok (v := 2) (mi := opI rng1 [.ex (opM (f1 lenD) [.va 1])]) (elt := callM g [.ex (opM (f2 ixD) [.va 0, .va 2]), .ex (opM (f2 ixD) [.va 1, .va 2])]) (ρ := [.val (.tup as), .val (.tup bs), .no]) (ds := rangeL 0 bs.length 1)
    (fun d => match d with | .int i => .bl (p i.toNat) | _ => .non) (opI1 (d := .int (bs.length : Nat)) (by simp only [x_seqS, x_nxS, x_bkS, x_ctS, x_retS, x_retNS, x_retV, x_ifS, x_asgS, x_slotOf, x_slotOf', x_opM, x_opI, x_ev0, x_ev1, x_ev2, x_sl1, x_sl2, x_retM, x_varM, x_f1, x_f2, x_boolM, x_truM, x_notM, x_andM, x_orM, x_iteM, x_tvM, x_lstM, x_tupM, x_forS, x_whileS, x_parS, x_par0, x_par1, x_appS, x_setS, x_setPS, x_dicM, x_callM, x_cmpEq, x_cmpNe, x_cmpLt, x_cmpLe, x_cmpGt, x_cmpGe, x_cmpIs, x_cmpIn, x_eqI, x_neI, x_ltI, x_leI, x_gtI, x_geI, x_isI, x_add, x_sub, x_mul, x_mod, x_div, x_xor, x_and, x_shr, x_neg, x_abs, x_int, x_isi, x_truB, x_mutI, x_mutB, x_mutL, x_mutT, x_indI, x_indB, x_len, x_lenT, x_lenS, x_andV, x_orV, x_extS, x_untS, x_augS, R.bind_ok, R.bind_exc, R.bind_bad, List.getElem?_cons_zero, List.getElem?_cons_succ, List.set_cons_zero, List.set_cons_succ, Option.map_some, if_true, if_false, decide_eq_true_eq, Bool.not_eq_true, decide_true, decide_false, Bool.false_eq_true, Bool.not_true, Bool.not_false, and_true, true_and, and_false, false_and, List.map_cons, List.map_nil, List.replicate_succ, List.replicate_zero, List.cons_append, List.nil_append, List.length_cons, List.length_nil, List.append_nil, reduceCtorEq, Nat.reduceSub, Nat.reduceAdd, hasOwn, List.any_cons, List.any_nil, Bool.or_false, Bool.or_true, Bool.true_or, Bool.false_or, List.isEmpty_nil, ite_self, eq_self]) (rng_nat hm)) rfl (by simp [rangeL]; omega) (by simp) (fun d hd => by
      unfold rangeL at hd
      obtain ⟨i, hi, rfl⟩ := List.mem_map.mp hd
      have hi' := List.mem_range.mp hi
      have e : (0 : Int) + (i : Int) * 1 = (i : Int) := by omega
      rw [e]
      show callM g _ [.val (.tup as), .val (.tup bs), .val (.int (i : Int))] = .ok (.bl (p (i : Int).toNat)) _
      rw [Int.toNat_natCast]
      have ha := List.getElem?_eq_getElem (l := as) (i := i) (by omega)
      have hb := List.getElem?_eq_getElem (l := bs) (i := i) hi'
      exact is_elt g _ _ _ _ _ _ (ix_tup ha) (ix_tup hb) (hg i _ _ ha hb))
  have e2 : (rangeL 0 bs.length 1).map (fun d => match d with | .int i => D.bl (p i.toNat) | _ => .non) = (List.range bs.length).map fun i => D.bl (p i) := by
    unfold rangeL
    rw [List.map_map]
    refine List.map_congr_left fun i _ => ?_
    show D.bl (p ((0 : Int) + (i : Int) * 1).toNat) = _
    rw [show (0 : Int) + (i : Int) * 1 = (i : Int) by omega, Int.toNat_natCast]
  rw [e2] at hc
  have h1 := opM1 hc (allD_map (List.range bs.length) p)
  have h2 := ret_okM (fr := true) h1 rfl
  have hn : isD (.tup bs) .non = some (.bl false) := rfl
  have b1 : isiB "bool" (.tup bs) = false := rfl
  have b2 : isiB "int" (.tup bs) = false := rfl
  have b3 : isiB "str" (.tup bs) = false := rfl
  have b4 : isiB "tuple" (.tup as) = true := rfl
  have l1 : lenD (.tup as) = some (.int (bs.length : Nat)) := by rw [← hl]; rfl
  have l2 : lenD (.tup bs) = some (.int (bs.length : Nat)) := rfl
  refine run_of (ρ := [.val (.tup as), .val (.tup bs), .no]) ?_
  generalize (D.tup as) = z at *
  generalize (D.tup bs) = y at *
  refine (seq_nx (ρ' := [.val z, .val y, .no]) (by simp only [x_seqS, x_nxS, x_bkS, x_ctS, x_retS, x_retNS, x_retV, x_ifS, x_asgS, x_slotOf, x_slotOf', x_opM, x_opI, x_ev0, x_ev1, x_ev2, x_sl1, x_sl2, x_retM, x_varM, x_f1, x_f2, x_boolM, x_truM, x_notM, x_andM, x_orM, x_iteM, x_tvM, x_lstM, x_tupM, x_forS, x_whileS, x_parS, x_par0, x_par1, x_appS, x_setS, x_setPS, x_dicM, x_callM, x_cmpEq, x_cmpNe, x_cmpLt, x_cmpLe, x_cmpGt, x_cmpGe, x_cmpIs, x_cmpIn, x_eqI, x_neI, x_ltI, x_leI, x_gtI, x_geI, x_isI, x_add, x_sub, x_mul, x_mod, x_div, x_xor, x_and, x_shr, x_neg, x_abs, x_int, x_isi, x_truB, x_mutI, x_mutB, x_mutL, x_mutT, x_indI, x_indB, x_len, x_lenT, x_lenS, x_andV, x_orV, x_extS, x_untS, x_augS, R.bind_ok, R.bind_exc, R.bind_bad, List.getElem?_cons_zero, List.getElem?_cons_succ, List.set_cons_zero, List.set_cons_succ, Option.map_some, if_true, if_false, decide_eq_true_eq, Bool.not_eq_true, decide_true, decide_false, Bool.false_eq_true, Bool.not_true, Bool.not_false, and_true, true_and, and_false, false_and, List.map_cons, List.map_nil, List.replicate_succ, List.replicate_zero, List.cons_append, List.nil_append, List.length_cons, List.length_nil, List.append_nil, reduceCtorEq, Nat.reduceSub, Nat.reduceAdd, hasOwn, List.any_cons, List.any_nil, Bool.or_false, Bool.or_true, Bool.true_or, Bool.false_or, List.isEmpty_nil, ite_self, eq_self, hn])).trans ?_
  refine (seq_nx (ρ' := [.val z, .val y, .no]) (by simp only [x_seqS, x_nxS, x_bkS, x_ctS, x_retS, x_retNS, x_retV, x_ifS, x_asgS, x_slotOf, x_slotOf', x_opM, x_opI, x_ev0, x_ev1, x_ev2, x_sl1, x_sl2, x_retM, x_varM, x_f1, x_f2, x_boolM, x_truM, x_notM, x_andM, x_orM, x_iteM, x_tvM, x_lstM, x_tupM, x_forS, x_whileS, x_parS, x_par0, x_par1, x_appS, x_setS, x_setPS, x_dicM, x_callM, x_cmpEq, x_cmpNe, x_cmpLt, x_cmpLe, x_cmpGt, x_cmpGe, x_cmpIs, x_cmpIn, x_eqI, x_neI, x_ltI, x_leI, x_gtI, x_geI, x_isI, x_add, x_sub, x_mul, x_mod, x_div, x_xor, x_and, x_shr, x_neg, x_abs, x_int, x_isi, x_truB, x_mutI, x_mutB, x_mutL, x_mutT, x_indI, x_indB, x_len, x_lenT, x_lenS, x_andV, x_orV, x_extS, x_untS, x_augS, R.bind_ok, R.bind_exc, R.bind_bad, List.getElem?_cons_zero, List.getElem?_cons_succ, List.set_cons_zero, List.set_cons_succ, Option.map_some, if_true, if_false, decide_eq_true_eq, Bool.not_eq_true, decide_true, decide_false, Bool.false_eq_true, Bool.not_true, Bool.not_false, and_true, true_and, and_false, false_and, List.map_cons, List.map_nil, List.replicate_succ, List.replicate_zero, List.cons_append, List.nil_append, List.length_cons, List.length_nil, List.append_nil, reduceCtorEq, Nat.reduceSub, Nat.reduceAdd, hasOwn, List.any_cons, List.any_nil, Bool.or_false, Bool.or_true, Bool.true_or, Bool.false_or, List.isEmpty_nil, ite_self, eq_self, b1])).trans ?_
  refine (seq_nx (ρ' := [.val z, .val y, .no]) (by simp only [x_seqS, x_nxS, x_bkS, x_ctS, x_retS, x_retNS, x_retV, x_ifS, x_asgS, x_slotOf, x_slotOf', x_opM, x_opI, x_ev0, x_ev1, x_ev2, x_sl1, x_sl2, x_retM, x_varM, x_f1, x_f2, x_boolM, x_truM, x_notM, x_andM, x_orM, x_iteM, x_tvM, x_lstM, x_tupM, x_forS, x_whileS, x_parS, x_par0, x_par1, x_appS, x_setS, x_setPS, x_dicM, x_callM, x_cmpEq, x_cmpNe, x_cmpLt, x_cmpLe, x_cmpGt, x_cmpGe, x_cmpIs, x_cmpIn, x_eqI, x_neI, x_ltI, x_leI, x_gtI, x_geI, x_isI, x_add, x_sub, x_mul, x_mod, x_div, x_xor, x_and, x_shr, x_neg, x_abs, x_int, x_isi, x_truB, x_mutI, x_mutB, x_mutL, x_mutT, x_indI, x_indB, x_len, x_lenT, x_lenS, x_andV, x_orV, x_extS, x_untS, x_augS, R.bind_ok, R.bind_exc, R.bind_bad, List.getElem?_cons_zero, List.getElem?_cons_succ, List.set_cons_zero, List.set_cons_succ, Option.map_some, if_true, if_false, decide_eq_true_eq, Bool.not_eq_true, decide_true, decide_false, Bool.false_eq_true, Bool.not_true, Bool.not_false, and_true, true_and, and_false, false_and, List.map_cons, List.map_nil, List.replicate_succ, List.replicate_zero, List.cons_append, List.nil_append, List.length_cons, List.length_nil, List.append_nil, reduceCtorEq, Nat.reduceSub, Nat.reduceAdd, hasOwn, List.any_cons, List.any_nil, Bool.or_false, Bool.or_true, Bool.true_or, Bool.false_or, List.isEmpty_nil, ite_self, eq_self, b2])).trans ?_
  refine (seq_nx (ρ' := [.val z, .val y, .no]) (by simp only [x_seqS, x_nxS, x_bkS, x_ctS, x_retS, x_retNS, x_retV, x_ifS, x_asgS, x_slotOf, x_slotOf', x_opM, x_opI, x_ev0, x_ev1, x_ev2, x_sl1, x_sl2, x_retM, x_varM, x_f1, x_f2, x_boolM, x_truM, x_notM, x_andM, x_orM, x_iteM, x_tvM, x_lstM, x_tupM, x_forS, x_whileS, x_parS, x_par0, x_par1, x_appS, x_setS, x_setPS, x_dicM, x_callM, x_cmpEq, x_cmpNe, x_cmpLt, x_cmpLe, x_cmpGt, x_cmpGe, x_cmpIs, x_cmpIn, x_eqI, x_neI, x_ltI, x_leI, x_gtI, x_geI, x_isI, x_add, x_sub, x_mul, x_mod, x_div, x_xor, x_and, x_shr, x_neg, x_abs, x_int, x_isi, x_truB, x_mutI, x_mutB, x_mutL, x_mutT, x_indI, x_indB, x_len, x_lenT, x_lenS, x_andV, x_orV, x_extS, x_untS, x_augS, R.bind_ok, R.bind_exc, R.bind_bad, List.getElem?_cons_zero, List.getElem?_cons_succ, List.set_cons_zero, List.set_cons_succ, Option.map_some, if_true, if_false, decide_eq_true_eq, Bool.not_eq_true, decide_true, decide_false, Bool.false_eq_true, Bool.not_true, Bool.not_false, and_true, true_and, and_false, false_and, List.map_cons, List.map_nil, List.replicate_succ, List.replicate_zero, List.cons_append, List.nil_append, List.length_cons, List.length_nil, List.append_nil, reduceCtorEq, Nat.reduceSub, Nat.reduceAdd, hasOwn, List.any_cons, List.any_nil, Bool.or_false, Bool.or_true, Bool.true_or, Bool.false_or, List.isEmpty_nil, ite_self, eq_self, b3])).trans ?_
  refine (seq_nx (ρ' := [.val z, .val y, .no]) (by simp only [x_seqS, x_nxS, x_bkS, x_ctS, x_retS, x_retNS, x_retV, x_ifS, x_asgS, x_slotOf, x_slotOf', x_opM, x_opI, x_ev0, x_ev1, x_ev2, x_sl1, x_sl2, x_retM, x_varM, x_f1, x_f2, x_boolM, x_truM, x_notM, x_andM, x_orM, x_iteM, x_tvM, x_lstM, x_tupM, x_forS, x_whileS, x_parS, x_par0, x_par1, x_appS, x_setS, x_setPS, x_dicM, x_callM, x_cmpEq, x_cmpNe, x_cmpLt, x_cmpLe, x_cmpGt, x_cmpGe, x_cmpIs, x_cmpIn, x_eqI, x_neI, x_ltI, x_leI, x_gtI, x_geI, x_isI, x_add, x_sub, x_mul, x_mod, x_div, x_xor, x_and, x_shr, x_neg, x_abs, x_int, x_isi, x_truB, x_mutI, x_mutB, x_mutL, x_mutT, x_indI, x_indB, x_len, x_lenT, x_lenS, x_andV, x_orV, x_extS, x_untS, x_augS, R.bind_ok, R.bind_exc, R.bind_bad, List.getElem?_cons_zero, List.getElem?_cons_succ, List.set_cons_zero, List.set_cons_succ, Option.map_some, if_true, if_false, decide_eq_true_eq, Bool.not_eq_true, decide_true, decide_false, Bool.false_eq_true, Bool.not_true, Bool.not_false, and_true, true_and, and_false, false_and, List.map_cons, List.map_nil, List.replicate_succ, List.replicate_zero, List.cons_append, List.nil_append, List.length_cons, List.length_nil, List.append_nil, reduceCtorEq, Nat.reduceSub, Nat.reduceAdd, hasOwn, List.any_cons, List.any_nil, Bool.or_false, Bool.or_true, Bool.true_or, Bool.false_or, List.isEmpty_nil, ite_self, eq_self, b4, l1, l2])).trans ?_
  exact h2
theorem is_tup_self {g h : Fn} {as : List D} (hm : as.length ≤ 10000) (hg : ∀ a ∈ as, g [a, a] = .ok (.bl true)) : semIs g h [.tup as, .tup as] = .ok (.bl true) := by
  have q := is_tup (g := g) (h := h) (fun _ => true) rfl hm fun i a b ha hb => by
    rw [ha] at hb
    cases hb
    exact hg a (List.mem_of_getElem? ha)
  rw [q]
  congr 2
  exact List.all_eq_true.mpr fun _ _ => rfl
/-! ### an own list as argument -/
theorem pureAll_ints : ∀ l : List Int, pureAll? (l.map D.int) = true
  | [] => by unfold pureAll?; rfl
  | n :: l => by
    show pureAll? (D.int n :: l.map D.int) = true
    unfold pureAll?
    rw [pureAll_ints l]
    rfl
theorem indep_lI (l : List Int) : indep (lI l) = true := pureAll_ints l
theorem ixI_lI {l : List Int} {i : Nat} (h : i < l.length) : ixI (l.map D.int).length (i : Int) = some i := by
  rw [List.length_map, ixI_nn (by omega) (by omega), Int.toNat_natCast]
theorem compM_via {mi : M (List D)} {own : List Nat} {t : Tg} {c : M Bool} {e : M D} {ρ ρ1 : En} {ds : List D} (hm : mi ρ = .ok ds ρ1) : compM mi own t c e ρ = compM (fun _ => .ok ds ρ1) own t c e ρ1 := by
  unfold compM
  rw [hm]
def idxL : Nat → Nat → List D
  | _, 0 => []
  | i, k + 1 => .int (i : Nat) :: idxL (i + 1) k
theorem idxL_eq : ∀ (k i : Nat), idxL i k = (List.range k).map fun j => D.int ((i + j : Nat) : Int)
  | 0, _ => rfl
  | k + 1, i => by
    show D.int (i : Nat) :: idxL (i + 1) k = _
    rw [idxL_eq k, List.range_succ_eq_map, List.map_cons, List.map_map]
    have e : ∀ j : Nat, D.int ((i + 1 + j : Nat) : Int) = D.int ((i + (j + 1) : Nat) : Int) := fun j => by rw [show i + 1 + j = i + (j + 1) by omega]
    refine congrArg (D.int (i : Nat) :: ·) (List.map_congr_left fun j _ => e j)
theorem range_idx (k : Nat) : rangeL 0 k 1 = idxL 0 k := by
  rw [idxL_eq]
  unfold rangeL
  refine List.map_congr_left fun j _ => ?_
  rw [show (0 : Int) + (j : Int) * 1 = ((0 + j : Nat) : Int) by omega]
theorem rng_idx {n : Nat} (hn : n ≤ 10000) : rng1 [.int (n : Int)] = some (idxL 0 n) := by rw [rng_nat hn, range_idx]
theorem idxL_len (k i : Nat) : (idxL i k).length = k := by rw [idxL_eq, List.length_map, List.length_range]
theorem idxL_mem {i k : Nat} {d : D} (h : d ∈ idxL i k) : ∃ j : Nat, i ≤ j ∧ j < i + k ∧ d = .int (j : Nat) := by
  rw [idxL_eq] at h
  obtain ⟨j, hj, rfl⟩ := List.mem_map.mp h
  have := List.mem_range.mp hj
  exact ⟨i + j, by omega, by omega, rfl⟩
/-! ### comprehensions with a test -/
theorem compF_ok {v : Nat} {elt : M D} {cond : M Bool} {ρ : En} (F : D → D) (p : D → Bool) (hv : v < ρ.length) (hn : ρ[v]? = some .no) : ∀ (ds : List D), (∀ d ∈ ds, cond (ρ.set v (.val d)) = .ok (p d) (ρ.set v (.val d)) ∧ (p d = true → elt (ρ.set v (.val d)) = .ok (F d) (ρ.set v (.val d)))) → compL [v] (.nm v) cond elt ds ρ = .ok ((ds.filter p).map F) ρ
  | [], _ => rfl
  | d :: ds, h => by
    have e : (ρ.set v (.val d)).set v .no = ρ := by
      rw [List.set_set]
      apply List.ext_getElem?
      intro j
      by_cases hj : v = j
      · subst hj; rw [List.getElem?_set_self hv, hn]
      · rw [List.getElem?_set_ne hj]
    obtain ⟨h1, h2⟩ := h d List.mem_cons_self
    have ih := compF_ok (elt := elt) (cond := cond) F p hv hn ds fun d' h' => h d' (List.mem_cons_of_mem _ h')
    unfold compL
    simp only [bindT, h1]
    cases hp : p d with
    | true =>
      rw [hp] at h2
      rw [List.filter_cons_of_pos hp]
      simp only [h2 rfl]
      show (match compL [v] (.nm v) cond elt ds ((ρ.set v (.val d)).set v .no) with
          | .ok es ρ4 => R.ok (F d :: es) ρ4
          | .exc x ρ4 => .exc x ρ4
          | .bad => .bad) = _
      rw [e, ih]
      rfl
    | false =>
      rw [List.filter_cons_of_neg (by rw [hp]; exact Bool.false_ne_true)]
      show compL [v] (.nm v) cond elt ds ((ρ.set v (.val d)).set v .no) = _
      rw [e, ih]
theorem compMF_ok {v : Nat} {mi : M (List D)} {elt : M D} {cond : M Bool} {ρ : En} {ds : List D} (F : D → D) (p : D → Bool) (hm : mi ρ = .ok ds ρ) (hf : freeSlots [v] ρ = true) (hl : ds.length ≤ 16000000) (hv : v < ρ.length)
    (he : ∀ d ∈ ds, cond (ρ.set v (.val d)) = .ok (p d) (ρ.set v (.val d)) ∧ (p d = true → elt (ρ.set v (.val d)) = .ok (F d) (ρ.set v (.val d)))) :
    compM mi [v] (.nm v) cond elt ρ = .ok (.lst ((ds.filter p).map F)) ρ := by
  unfold compM
  rw [hm, R.bind_ok, if_pos ⟨hf, hl⟩]
  have h1 : compL [v] (.nm v) cond elt ds (ρ.set v .no) = .ok ((ds.filter p).map F) (ρ.set v .no) := by
    refine compF_ok F p (by rw [List.length_set]; exact hv) (List.getElem?_set_self hv) ds fun d hd => ?_
    rw [List.set_set]
    exact he d hd
  show (match compL [v] (.nm v) cond elt ds (ρ.set v .no) with
    | .ok es ρ2 => R.ok (D.lst es) (restore [v] ρ ρ2)
    | _ => .bad) = _
  rw [h1]
  show R.ok (D.lst ((ds.filter p).map F)) ((ρ.set v .no).set v ((ρ[v]?).getD .no)) = _
  congr 1
  rw [List.set_set]
  apply List.ext_getElem?
  intro j
  by_cases hj : v = j
  · subst hj; rw [List.getElem?_set_self hv, List.getElem?_eq_getElem hv]; rfl
  · rw [List.getElem?_set_ne hj]
/-! ### comprehensions over several names -/
theorem compL_gen {own : List Nat} {t : Tg} {elt : M D} {ρ : En} (F : D → D) : ∀ (ds : List D), (∀ d ∈ ds, ∃ ρd, bindT t d ρ = some ρd ∧ elt ρd = .ok (F d) ρd ∧ wipeE own ρd = ρ) → compL own t yesM elt ds ρ = .ok (ds.map F) ρ
  | [], _ => rfl
  | d :: ds, h => by
    obtain ⟨ρd, h1, h2, h3⟩ := h d List.mem_cons_self
    have e : compL own t yesM elt (d :: ds) ρ = (match bindT t d ρ with
      | none => .bad
      | some ρ1 => (match elt ρ1 with
        | .ok e ρ3 => (match compL own t yesM elt ds (wipeE own ρ3) with
          | .ok es ρ4 => .ok (e :: es) ρ4
          | .exc x ρ4 => .exc x ρ4
          | .bad => .bad)
        | _ => .bad)) := rfl
    rw [e, h1]
    simp only [h2, h3, compL_gen F ds fun d' h' => h d' (List.mem_cons_of_mem _ h')]
    rfl
theorem compM_gen {own : List Nat} {t : Tg} {mi : M (List D)} {elt : M D} {ρ ρw : En} {ds : List D} (F : D → D) (hm : mi ρ = .ok ds ρ) (hf : freeSlots own ρ = true) (hl : ds.length ≤ 16000000) (hw : wipeE own ρ = ρw) (hr : restore own ρ ρw = ρ)
    (he : ∀ d ∈ ds, ∃ ρd, bindT t d ρw = some ρd ∧ elt ρd = .ok (F d) ρd ∧ wipeE own ρd = ρw) : compM mi own t yesM elt ρ = .ok (.lst (ds.map F)) ρ := by
  unfold compM
  rw [hm, R.bind_ok, if_pos ⟨hf, hl⟩, hw, compL_gen F ds he]
  show R.ok (D.lst (ds.map F)) (restore own ρ ρw) = _
  rw [hr]
theorem opI2 {f : List D → Option (List D)} {m1 m2 : M D} {ρ : En} {a b : D} {r : List D} (h1 : m1 ρ = .ok a ρ) (h2 : m2 ρ = .ok b ρ) (hf : f [a, b] = some r) : Dv.opI f [.ex m1, .ex m2] ρ = .ok r ρ := by
  unfold Dv.opI evO
  rw [h1, R.bind_ok]
  unfold evO
  rw [h2]
  simp only [R.bind_ok, x_ev0, hf]
theorem opI_of {f : List D → Option (List D)} {os : List Opd} {ρ ρ' : En} {ds r : List D} (h : evO os ρ = .ok ds ρ') (hf : f ds = some r) : Dv.opI f os ρ = .ok r ρ' := by
  unfold Dv.opI
  rw [h]
  simp only [R.bind_ok, hf]
theorem zip_tI (a b : List Int) : zipD [tI a, tI b] = some (List.zipWith (fun x y => D.tup [.int x, .int y]) a b) := by
  show some (((a.map D.int).zip (b.map D.int)).map fun q => D.tup [q.1, q.2]) = _
  congr 1
  induction a generalizing b with
  | nil => rfl
  | cons x a ih =>
    cases b with
    | nil => rfl
    | cons y b => exact congrArg (D.tup [.int x, .int y] :: ·) (ih b)
/-! ### checks -/
theorem chkT {m : M D} {s : S} {ρ ρ' : En} (h : m ρ = .ok (.bl true) ρ') : ifS (notM (truM (.ex m))) s nxS ρ = .ok .nx ρ' := by
  simp only [x_seqS, x_nxS, x_bkS, x_ctS, x_retS, x_retNS, x_retV, x_ifS, x_asgS, x_slotOf, x_slotOf', x_opM, x_opI, x_ev0, x_ev1, x_ev2, x_sl1, x_sl2, x_retM, x_varM, x_f1, x_f2, x_boolM, x_truM, x_notM, x_andM, x_orM, x_iteM, x_tvM, x_lstM, x_tupM, x_forS, x_whileS, x_parS, x_par0, x_par1, x_appS, x_setS, x_setPS, x_dicM, x_callM, x_cmpEq, x_cmpNe, x_cmpLt, x_cmpLe, x_cmpGt, x_cmpGe, x_cmpIs, x_cmpIn, x_eqI, x_neI, x_ltI, x_leI, x_gtI, x_geI, x_isI, x_add, x_sub, x_mul, x_mod, x_div, x_xor, x_and, x_shr, x_neg, x_abs, x_int, x_isi, x_truB, x_mutI, x_mutB, x_mutL, x_mutT, x_indI, x_indB, x_len, x_lenT, x_lenS, x_andV, x_orV, x_extS, x_untS, x_augS, R.bind_ok, R.bind_exc, R.bind_bad, List.getElem?_cons_zero, List.getElem?_cons_succ, List.set_cons_zero, List.set_cons_succ, Option.map_some, if_true, if_false, decide_eq_true_eq, Bool.not_eq_true, decide_true, decide_false, Bool.false_eq_true, Bool.not_true, Bool.not_false, and_true, true_and, and_false, false_and, List.map_cons, List.map_nil, List.replicate_succ, List.replicate_zero, List.cons_append, List.nil_append, List.length_cons, List.length_nil, List.append_nil, reduceCtorEq, Nat.reduceSub, Nat.reduceAdd, hasOwn, List.any_cons, List.any_nil, Bool.or_false, Bool.or_true, Bool.true_or, Bool.false_or, List.isEmpty_nil, ite_self, eq_self, h]
theorem chkO {m1 m2 : M D} {s : S} {ρ ρ' ρ2 : En} (h : m1 ρ = .ok (.bl true) ρ') (h2 : m2 ρ' = .ok (.bl true) ρ2) : ifS (orM (notM (truM (.ex m1))) (notM (truM (.ex m2)))) s nxS ρ = .ok .nx ρ2 := by
  simp only [x_seqS, x_nxS, x_bkS, x_ctS, x_retS, x_retNS, x_retV, x_ifS, x_asgS, x_slotOf, x_slotOf', x_opM, x_opI, x_ev0, x_ev1, x_ev2, x_sl1, x_sl2, x_retM, x_varM, x_f1, x_f2, x_boolM, x_truM, x_notM, x_andM, x_orM, x_iteM, x_tvM, x_lstM, x_tupM, x_forS, x_whileS, x_parS, x_par0, x_par1, x_appS, x_setS, x_setPS, x_dicM, x_callM, x_cmpEq, x_cmpNe, x_cmpLt, x_cmpLe, x_cmpGt, x_cmpGe, x_cmpIs, x_cmpIn, x_eqI, x_neI, x_ltI, x_leI, x_gtI, x_geI, x_isI, x_add, x_sub, x_mul, x_mod, x_div, x_xor, x_and, x_shr, x_neg, x_abs, x_int, x_isi, x_truB, x_mutI, x_mutB, x_mutL, x_mutT, x_indI, x_indB, x_len, x_lenT, x_lenS, x_andV, x_orV, x_extS, x_untS, x_augS, R.bind_ok, R.bind_exc, R.bind_bad, List.getElem?_cons_zero, List.getElem?_cons_succ, List.set_cons_zero, List.set_cons_succ, Option.map_some, if_true, if_false, decide_eq_true_eq, Bool.not_eq_true, decide_true, decide_false, Bool.false_eq_true, Bool.not_true, Bool.not_false, and_true, true_and, and_false, false_and, List.map_cons, List.map_nil, List.replicate_succ, List.replicate_zero, List.cons_append, List.nil_append, List.length_cons, List.length_nil, List.append_nil, reduceCtorEq, Nat.reduceSub, Nat.reduceAdd, hasOwn, List.any_cons, List.any_nil, Bool.or_false, Bool.or_true, Bool.true_or, Bool.false_or, List.isEmpty_nil, ite_self, eq_self, h, h2]
theorem evO_two {m1 m2 : M D} {ρ : En} {a b : D} (h1 : m1 ρ = .ok a ρ) (h2 : m2 ρ = .ok b ρ) : evO [.ex m1, .ex m2] ρ = .ok [a, b] ρ := by
  simp only [x_seqS, x_nxS, x_bkS, x_ctS, x_retS, x_retNS, x_retV, x_ifS, x_asgS, x_slotOf, x_slotOf', x_opM, x_opI, x_ev0, x_ev1, x_ev2, x_sl1, x_sl2, x_retM, x_varM, x_f1, x_f2, x_boolM, x_truM, x_notM, x_andM, x_orM, x_iteM, x_tvM, x_lstM, x_tupM, x_forS, x_whileS, x_parS, x_par0, x_par1, x_appS, x_setS, x_setPS, x_dicM, x_callM, x_cmpEq, x_cmpNe, x_cmpLt, x_cmpLe, x_cmpGt, x_cmpGe, x_cmpIs, x_cmpIn, x_eqI, x_neI, x_ltI, x_leI, x_gtI, x_geI, x_isI, x_add, x_sub, x_mul, x_mod, x_div, x_xor, x_and, x_shr, x_neg, x_abs, x_int, x_isi, x_truB, x_mutI, x_mutB, x_mutL, x_mutT, x_indI, x_indB, x_len, x_lenT, x_lenS, x_andV, x_orV, x_extS, x_untS, x_augS, R.bind_ok, R.bind_exc, R.bind_bad, List.getElem?_cons_zero, List.getElem?_cons_succ, List.set_cons_zero, List.set_cons_succ, Option.map_some, if_true, if_false, decide_eq_true_eq, Bool.not_eq_true, decide_true, decide_false, Bool.false_eq_true, Bool.not_true, Bool.not_false, and_true, true_and, and_false, false_and, List.map_cons, List.map_nil, List.replicate_succ, List.replicate_zero, List.cons_append, List.nil_append, List.length_cons, List.length_nil, List.append_nil, reduceCtorEq, Nat.reduceSub, Nat.reduceAdd, hasOwn, List.any_cons, List.any_nil, Bool.or_false, Bool.or_true, Bool.true_or, Bool.false_or, List.isEmpty_nil, ite_self, eq_self, h1, h2]
theorem rng2_of {a b : Int} (ha : InRg a) (hb : InRg b) : rng2 [.int a, .int b] = some (rangeL a (b - a).toNat 1) := by
  show (if InRg a ∧ InRg b then some (rangeL a (b - a).toNat 1) else none) = _
  rw [if_pos ⟨ha, hb⟩]
theorem getD_at {t : List Int} {s : Nat} (h : s < t.length) : t[s]? = some (t.getD s 0) := by
  rw [List.getD_eq_getElem?_getD, List.getElem?_eq_getElem h]
  rfl
end Dv
/-! rows of natural numbers as data -/
namespace Dv
open PySem PyProof.Rows L2
abbrev iN (l : List Nat) : List Int := l.map fun x : Nat => (x : Int)
abbrev tN (l : List Nat) : D := tI (iN l)
theorem len_tN (l : List Nat) : lenD (tN l) = some (.int (l.length : Nat)) := by rw [len_tI, List.length_map]
theorem getD_iN (l : List Nat) (i : Nat) : (iN l).getD i 0 = ((l.getD i 0 : Nat) : Int) := by
  rw [List.getD_eq_getElem?_getD, List.getElem?_map, List.getD_eq_getElem?_getD]
  cases l[i]? <;> rfl
theorem ix_tN {l : List Nat} {i : Nat} (h : i < l.length) : ixD (tN l) (.int (i : Nat)) = some (.int (l.getD i 0 : Nat)) := by
  rw [← getD_iN]
  exact ix_tI (Dv.getD_at (by rw [List.length_map]; exact h))
theorem ixn_tN {l : List Nat} {k : Nat} (h : k < l.length) : ixD (tN l) (.int (-1 - (k : Int))) = some (.int (l.getD (l.length - 1 - k) 0 : Nat)) := by
  have hl : (iN l).length = l.length := List.length_map _
  have e : ixI ((iN l).map D.int).length (-1 - (k : Int)) = some (l.length - 1 - k) := by
    unfold ixI
    rw [List.length_map, hl, if_neg (by omega), if_pos (by omega)]
    congr 1
    omega
  rw [← getD_iN]
  show ((ixI ((iN l).map D.int).length (-1 - (k : Int))).bind fun j => ((iN l).map D.int)[j]?) = _
  rw [e]
  show ((iN l).map D.int)[l.length - 1 - k]? = _
  rw [List.getElem?_map, Dv.getD_at (t := iN l) (s := l.length - 1 - k) (by rw [hl]; omega)]
  rfl
theorem tN_cut (l : List Nat) (lo hi : Option Int) : slD3 (tN l) lo hi = some (tN (cutL l lo hi)) := by
  show some (D.tup (cutL ((iN l).map D.int) lo hi)) = _
  congr 2
  unfold cutL iN
  rw [List.length_map, List.length_map, List.map_take, List.map_drop, List.map_take, List.map_drop]
theorem slH_tN (l : List Nat) (i : Nat) : slH [tN l, .int (i : Nat)] = some (tN (l.take i)) := by rw [slH_eq, tN_cut, cut_toN]
theorem slL_tN (l : List Nat) (i : Nat) : slL [tN l, .int (i : Nat)] = some (tN (l.drop i)) := by rw [slL_eq, tN_cut, cut_fromN]
theorem cut_midN {α : Type} (l : List α) {i j : Nat} (h : i ≤ j) : cutL l (some (i : Int)) (some (j : Int)) = (l.drop i).take (j - i) := by
  by_cases c : j ≤ l.length
  · exact cut_mid l h c
  · unfold cutL
    have h2 : HT.sIx l.length l.length (some (j : Int)) = l.length := by rw [HT.sIx_nat]; omega
    have h1 : HT.sIx l.length 0 (some (i : Int)) = min i l.length := HT.sIx_nat _ _ _
    rw [h1, h2]
    by_cases c2 : i ≤ l.length
    · rw [Nat.min_eq_left c2, List.take_of_length_le (by rw [List.length_drop]; omega), List.take_of_length_le (by rw [List.length_drop]; omega)]
    · rw [List.drop_of_length_le (show l.length ≤ i by omega), List.take_nil, Nat.min_eq_right (by omega), Nat.sub_self, List.take_zero]
theorem add_tN {a b : List Nat} (h : a.length + b.length ≤ 16000000) : addD (tN a) (tN b) = some (tN (a ++ b)) := by
  have e := add_tt (a := (iN a).map D.int) (b := (iN b).map D.int) (by rw [List.length_map, List.length_map, List.length_map, List.length_map]; exact h)
  rw [e]
  unfold tN tI iN
  rw [List.map_append, List.map_append]
theorem seq_tN (l : List Nat) : seqD (tN l) = some ((iN l).map D.int) := seq_t _
theorem forL_ret {t : Tg} {s : S} {d r : D} {ds : List D} {ρ ρ1 ρ2 : En} (hb : bindT t d ρ = some ρ1) (hs : s ρ1 = .ok (.ret r) ρ2) : forL t s (d :: ds) ρ = .ok (.ret r) ρ2 := by
  have e : forL t s (d :: ds) ρ = (match bindT t d ρ with
    | none => .bad
    | some ρ1 => (match s ρ1 with
      | .ok .nx ρ2 => forL t s ds ρ2
      | .ok .ct ρ2 => forL t s ds ρ2
      | .ok .bk ρ2 => .ok .nx ρ2
      | .ok (.ret d) ρ2 => .ok (.ret d) ρ2
      | .exc x ρ2 => .exc x ρ2
      | .bad => .bad)) := rfl
  rw [e, hb]
  simp only [hs]
theorem add_one {a : List Nat} (x : Nat) (h : a.length ≤ 1000) : addD (tN a) (.tup [.int (x : Nat)]) = some (tN (a ++ [x])) := add_tN (a := a) (b := [x]) (by show _ + 1 ≤ _; omega)
theorem nat0 (n : Nat) : ((n : Int) = 0) = (n = 0) := by
  apply propext
  constructor <;> intro h <;> omega
theorem natE (n m : Nat) : ((n : Int) = (m : Int)) = (n = m) := by
  apply propext
  constructor <;> intro h <;> omega
theorem asg_to {i : Nat} {m : M D} {fr : Bool} {ρ ρ2 : En} {d : D} (h : m ρ = .ok d ρ) (hs : ρ.set i (slotOf fr d) = ρ2) : asgS i m fr ρ = .ok .nx ρ2 := by rw [asg_okM h, hs]
theorem slB_of {oa oc oc2 : Opd} {ρ : En} {d r : D} {i j : Int} (h1 : evO [oa, oc] ρ = .ok [d, .int i] ρ) (h2 : evO [oc2] ρ = .ok [.int j] ρ) (h3 : Dv.again oa d ρ = some d) (h4 : slD3 d (some i) (some j) = some r) : slB oa oc oc2 ρ = .ok r ρ := by
  unfold slB
  rw [h1, R.bind_ok]
  show (evO [oc2] ρ).bind _ = _
  rw [h2, R.bind_ok]
  simp only [h3, h4]
abbrev lN (l : List Nat) : D := lI (iN l)
theorem app_lN {j : Nat} {m : M D} {ρ ρ2 : En} {l : List Nat} {i : Nat} (h : ρ[j]? = some (.own (lN l))) (hm : m ρ = .ok (.int (i : Nat)) ρ) (hl : l.length ≤ 1000) (h2 : ρ.set j (.own (lN (l ++ [i]))) = ρ2) : appS j m ρ = .ok .nx ρ2 := by
  have hl' : ((iN l).map D.int).length ≤ 16000000 := by rw [List.length_map, List.length_map]; omega
  rw [← h2]
  unfold appS
  rw [h]
  show (m ρ).bind _ = _
  rw [hm, R.bind_ok]
  show (match ρ[j]? with
    | some (.own (.lst ds)) => if ds.length ≤ 16000000 then R.ok Fl.nx (ρ.set j (.own (.lst (ds ++ [D.int (i : Nat)])))) else R.bad
    | _ => R.bad) = _
  rw [h]
  show (if ((iN l).map D.int).length ≤ 16000000 then R.ok Fl.nx (ρ.set j (.own (.lst ((iN l).map D.int ++ [D.int (i : Nat)])))) else R.bad) = _
  rw [if_pos hl']
  unfold lN lI iN
  rw [List.map_append, List.map_append]
  rfl
theorem ev_cons {m : M D} {os : List Opd} {ρ : En} {d : D} {ds : List D} (h1 : m ρ = .ok d ρ) (h2 : evO os ρ = .ok ds ρ) : evO (.ex m :: os) ρ = .ok (d :: ds) ρ := by
  rw [x_ev1, h1, R.bind_ok, h2, R.bind_ok]
theorem tup_okM {ms : List (M D)} {ρ : En} {ds : List D} (h : evO (ms.map Opd.ex) ρ = .ok ds ρ) : tupM ms ρ = .ok (.tup ds) ρ := by
  rw [x_tupM, h, R.bind_ok]
def fre (y : Sl) : Prop := y = .no ∨ ∃ d, y = .val d
theorem try_exc {h : Str} {b : S} {i : Nat} {su : Exn → M D} {fr : Bool} {ρ ρ1 : En} {x : Exn} (hb : b ρ = .exc x ρ1) (hc : x.cls = h) (hi : i < ρ1.length) : tryS h b i su fr ρ = retS (okM (su x)) fr (ρ1.set i .no) := by
  unfold tryS
  rw [hb]
  simp only [hc, hi, if_true]
theorem try_ok {h : Str} {b : S} {i : Nat} {su : Exn → M D} {fr : Bool} {ρ ρ1 : En} {f : Fl} (hb : b ρ = .ok f ρ1) : tryS h b i su fr ρ = .ok f ρ1 := by
  unfold tryS
  rw [hb]
abbrev Dr (ds : List Int) : Prop := ∀ d ∈ ds, 0 ≤ d ∧ d < 5040
theorem set_lN {j : Nat} {oi : Opd} {m : M D} {ρ ρ2 : En} {l : List Nat} {p v : Nat} (h : ρ[j]? = some (.own (lN l))) (hm : m ρ = .ok (.int (v : Nat)) ρ) (ho : evO [oi] ρ = .ok [.int (p : Nat)] ρ) (hp : p < l.length) (h2 : ρ.set j (.own (lN (l.set p v))) = ρ2) : setPS j oi m ρ = .ok .nx ρ2 := by
  rw [x_setPS, h]
  show setS j oi m ρ = _
  have hx : ixI ((iN l).map D.int).length (p : Int) = some p := ixI_lI (by rw [List.length_map]; exact hp)
  rw [x_setS, hm, R.bind_ok, h]
  show (evO [oi] ρ).bind _ = _
  rw [ho, R.bind_ok, h]
  show (match ixI ((iN l).map D.int).length (p : Int) with
    | some q => R.ok Fl.nx (ρ.set j (.own (.lst (((iN l).map D.int).set q (D.int (v : Nat))))))
    | none => R.bad) = _
  rw [hx, ← h2]
  show R.ok Fl.nx (ρ.set j (.own (.lst (((iN l).map D.int).set p (D.int (v : Nat)))))) = _
  unfold lN lI iN
  rw [List.map_set, List.map_set]
theorem ix_lN {l : List Nat} {i : Nat} (h : i < l.length) : ixD (lN l) (.int (i : Nat)) = some (.int (l.getD i 0 : Nat)) := by
  have x2 := ix_lI (l := iN l) (i := i) (x := (iN l).getD i 0) (Dv.getD_at (t := iN l) (s := i) (by rw [List.length_map]; exact h))
  rw [getD_iN] at x2
  exact x2
theorem len_lN (l : List Nat) : lenD (lN l) = some (.int (l.length : Nat)) := by rw [len_lI, List.length_map]
theorem nats_of {ds : List Int} (h : Dr ds) : ∃ L : List Nat, L.length = ds.length ∧ ds = iN L ∧ ∀ d ∈ L, d < 5040 := by
  refine ⟨ds.map Int.toNat, List.length_map _, ?_, fun d hd => ?_⟩
  · unfold iN
    rw [List.map_map]
    refine (List.map_id ds).symm.trans (List.map_congr_left fun d hd => ?_)
    have := h d hd
    show d = ((d.toNat : Nat) : Int)
    omega
  · obtain ⟨e, he, rfl⟩ := List.mem_map.mp hd
    have := h e he
    omega
theorem dr_iN {L : List Nat} (h : ∀ d ∈ L, d < 5040) : Dr (iN L) := fun d hd => by
  obtain ⟨e, he, rfl⟩ := List.mem_map.mp hd
  have := h e he
  omega
theorem rngN {v n : Nat} {o : Opd} {elt : M D} {ρ : En} (G : Nat → Nat) (h1 : evO [o] ρ = .ok [.int (n : Nat)] ρ) (hn : n ≤ 1000) (hf : freeSlots [v] ρ = true) (hv : v < ρ.length) (he : ∀ j, j < n → elt (ρ.set v (.val (.int (j : Nat)))) = .ok (.int (G j : Nat)) (ρ.set v (.val (.int (j : Nat))))) :
    compM (Dv.opI rng1 [o]) [v] (.nm v) yesM elt ρ = .ok (lN ((List.range n).map G)) ρ := by
  have hm : Dv.opI rng1 [o] ρ = .ok (idxL 0 n) ρ := opI_of h1 (rng_idx (by omega))
  have hc := compM_ok (v := v) (elt := elt) (fun d => match d with | .int c => .int (G c.toNat : Nat) | _ => .non) hm hf (by rw [idxL_len]; omega) hv (fun d hd => by
    obtain ⟨j, _, hj, rfl⟩ := idxL_mem hd
    exact he j (by omega))
  have e2 : (idxL 0 n).map (fun d => match d with | .int c => D.int (G c.toNat : Nat) | _ => .non) = (iN ((List.range n).map G)).map D.int := by
    rw [idxL_eq, List.map_map, iN, List.map_map, List.map_map]
    refine List.map_congr_left fun j _ => ?_
    show D.int (G ((0 + j : Nat) : Int).toNat : Nat) = D.int (G j : Nat)
    rw [Int.toNat_natCast, Nat.zero_add]
  rw [e2] at hc
  exact hc
theorem callM_ind {f : Fn} {os : List Opd} {ρ : En} {r : D} (ds : List D) (h : evO os ρ = .ok ds ρ) (hi : indep r = true) (hf : f ds = .ok r) : callM f os ρ = .ok r ρ := by
  unfold callM
  rw [h]
  simp only [R.bind_ok, hf, hi, if_true, ite_self]
theorem ind_tN (l : List Nat) : indep (tN l) = true := pureAll_ints (iN l)
theorem chkT1 {m : M D} {s : S} {ρ : En} (h : m ρ = .ok (.bl true) ρ) : ifS (notM (truM (.ex m))) s nxS ρ = .ok .nx ρ := chkT h
theorem sl_lN (l : List Nat) {i j : Nat} (h : i ≤ j) : slD3 (lN l) (some ((i : Nat) : Int)) (some ((j : Nat) : Int)) = some (lN ((l.drop i).take (j - i))) := by
  show some (D.lst (cutL ((iN l).map D.int) (some (i : Int)) (some (j : Int)))) = _
  rw [cut_midN _ h]
  unfold lN lI iN
  rw [List.map_take, List.map_drop, List.map_take, List.map_drop]
theorem fre_slots {v : Nat} {ρ : En} {y : Sl} (h : ρ[v]? = some y) (hf : fre y) : freeSlots [v] ρ = true := by
  unfold freeSlots
  rw [List.all_cons, h]
  rcases hf with rfl | ⟨d, rfl⟩ <;> rfl
/-! ### comprehensions over any items -/
theorem compL_x {α : Type} {own : List Nat} {t : Tg} {cond : M Bool} {elt : M D} {ρ : En} (f : α → D) (p : α → Bool) (h : α → D) : ∀ (l : List α), (∀ a ∈ l, ∃ ρd, bindT t (f a) ρ = some ρd ∧ cond ρd = .ok (p a) ρd ∧ (p a = true → elt ρd = .ok (h a) ρd) ∧ wipeE own ρd = ρ) → compL own t cond elt (l.map f) ρ = .ok ((l.filter p).map h) ρ
  | [], _ => rfl
  | a :: l, he => by
    obtain ⟨ρd, h1, h2, h3, h4⟩ := he a List.mem_cons_self
    have ih := compL_x (own := own) (t := t) (cond := cond) (elt := elt) f p h l fun b hb => he b (List.mem_cons_of_mem _ hb)
    have e : compL own t cond elt ((a :: l).map f) ρ = (match bindT t (f a) ρ with
      | none => .bad
      | some ρ1 => (match cond ρ1 with
        | .ok true ρ2 => (match elt ρ2 with
          | .ok e ρ3 => (match compL own t cond elt (l.map f) (wipeE own ρ3) with
            | .ok es ρ4 => .ok (e :: es) ρ4
            | .exc x ρ4 => .exc x ρ4
            | .bad => .bad)
          | _ => .bad)
        | .ok false ρ2 => compL own t cond elt (l.map f) (wipeE own ρ2)
        | _ => .bad)) := rfl
    rw [e, h1]
    simp only [h2]
    cases hp : p a with
    | true =>
      rw [List.filter_cons_of_pos hp]
      simp only [h3 hp, h4, ih]
      rfl
    | false =>
      rw [List.filter_cons_of_neg (by rw [hp]; exact Bool.false_ne_true)]
      show compL own t cond elt (l.map f) (wipeE own ρd) = _
      rw [h4, ih]
theorem compXG {α : Type} {own : List Nat} {t : Tg} {mi : M (List D)} {cond : M Bool} {elt : M D} {ρ ρ1 ρw : En} (l : List α) (f : α → D) (p : α → Bool) (h : α → D) (hm : mi ρ = .ok (l.map f) ρ1) (hl : l.length ≤ 1000000) (hf : freeSlots own ρ1 = true) (hw : wipeE own ρ1 = ρw) (hr : restore own ρ1 ρw = ρ1)
    (he : ∀ a ∈ l, ∃ ρd, bindT t (f a) ρw = some ρd ∧ cond ρd = .ok (p a) ρd ∧ (p a = true → elt ρd = .ok (h a) ρd) ∧ wipeE own ρd = ρw) : compM mi own t cond elt ρ = .ok (.lst ((l.filter p).map h)) ρ1 := by
  unfold compM
  rw [hm, R.bind_ok, if_pos ⟨hf, by rw [List.length_map]; omega⟩, hw, compL_x f p h l he]
  show R.ok (D.lst ((l.filter p).map h)) (restore own ρ1 ρw) = _
  rw [hr]
theorem filter_tt {α : Type} (l : List α) : l.filter (fun _ => true) = l := by
  induction l with
  | nil => rfl
  | cons a l ih => rw [List.filter_cons_of_pos rfl, ih]
theorem compX {α : Type} {own : List Nat} {t : Tg} {mi : M (List D)} {elt : M D} {ρ ρ1 ρw : En} (l : List α) (f h : α → D) (hm : mi ρ = .ok (l.map f) ρ1) (hl : l.length ≤ 1000000) (hf : freeSlots own ρ1 = true) (hw : wipeE own ρ1 = ρw) (hr : restore own ρ1 ρw = ρ1)
    (he : ∀ a ∈ l, ∃ ρd, bindT t (f a) ρw = some ρd ∧ elt ρd = .ok (h a) ρd ∧ wipeE own ρd = ρw) : compM mi own t yesM elt ρ = .ok (.lst (l.map h)) ρ1 := by
  have q := compXG (own := own) (t := t) (cond := yesM) (elt := elt) l f (fun _ => true) h hm hl hf hw hr fun a ha => by
    obtain ⟨ρd, h1, h2, h3⟩ := he a ha
    exact ⟨ρd, h1, rfl, fun _ => h2, h3⟩
  rw [filter_tt] at q
  exact q
theorem seq_one {m : M D} {ρ ρ1 : En} {d : D} {zs : List D} (h1 : m ρ = .ok d ρ1) (h2 : seqD d = some zs) : seqM m ρ = .ok zs ρ1 := by
  unfold seqM
  rw [h1, R.bind_ok, h2]
theorem zip_ll {α β : Type} (a : List α) (b : List β) (f : α → D) (h : β → D) (k1 k2 : List D → D) (hk1 : k1 = D.tup ∨ k1 = D.lst) (hk2 : k2 = D.tup ∨ k2 = D.lst) : zipD [k1 (a.map f), k2 (b.map h)] = some ((a.zip b).map fun q => D.tup [f q.1, h q.2]) := by
  have e : ((a.map f).zip (b.map h)).map (fun q => D.tup [q.1, q.2]) = (a.zip b).map fun q => D.tup [f q.1, h q.2] := by
    rw [List.zip_map, List.map_map]
    rfl
  rw [← e]
  rcases hk1 with rfl | rfl <;> rcases hk2 with rfl | rfl <;> rfl
end Dv
/-! evaluating natural numbers step by step: no env in sight -/
namespace Dv
open PySem PyProof.Rows L2
theorem ev_va {i : Nat} {os : List Opd} {ρ : En} {d : D} {ds : List D} (h : slD ρ[i]? = some d) (h2 : evO os ρ = .ok ds ρ) : evO (.va i :: os) ρ = .ok (d :: ds) ρ := by
  rw [x_ev2, h]
  show R.bind (evO os ρ) _ = _
  rw [h2, R.bind_ok, h]
theorem ev_v2 {i j : Nat} {ρ : En} {a b : D} (h : slD ρ[i]? = some a) (h2 : slD ρ[j]? = some b) : evO [.va i, .va j] ρ = .ok [a, b] ρ := ev_va h (ev_va h2 rfl)
section
variable {os : List Opd} {ρ : En} {a b : Nat}
theorem add_n (h : evO os ρ = .ok [.int (a : Nat), .int (b : Nat)] ρ) : opM (f2 addD) os ρ = .ok (.int (a + b : Nat)) ρ := opM2_of h (by rw [x_add, Int.natCast_add])
theorem sub_n (h : evO os ρ = .ok [.int (a : Nat), .int (b : Nat)] ρ) (hb : b ≤ a) : opM (f2 subD) os ρ = .ok (.int (a - b : Nat)) ρ := opM2_of h (by rw [x_sub, Int.natCast_sub hb])
theorem mul_n (h : evO os ρ = .ok [.int (a : Nat), .int (b : Nat)] ρ) (hb : b < 1000000000) : opM (f2 mulD) os ρ = .ok (.int (a * b : Nat)) ρ := opM2_of h (by
  have hb' : (b : Int) < 1000000000 := by omega
  rw [x_mul, if_pos (mulOk_r (j := (b : Int)) ⟨by omega, by omega⟩), Int.natCast_mul])
theorem mul_n' (h : evO os ρ = .ok [.int (a : Nat), .int (b : Nat)] ρ) (hb : a < 1000000000) : opM (f2 mulD) os ρ = .ok (.int (a * b : Nat)) ρ := opM2_of h (by
  have hb' : (a : Int) < 1000000000 := by omega
  rw [x_mul, if_pos (mulOk_l (i := (a : Int)) ⟨by omega, by omega⟩), Int.natCast_mul])
theorem mod_n (h : evO os ρ = .ok [.int (a : Nat), .int (b : Nat)] ρ) (hb : 0 < b) : opM (f2 modD) os ρ = .ok (.int (a % b : Nat)) ρ := opM2_of h (by
  rw [x_mod, if_pos (show (0 : Int) < (b : Int) by omega), Int.natCast_emod])
theorem div_n (h : evO os ρ = .ok [.int (a : Nat), .int (b : Nat)] ρ) (hb : 0 < b) (hb2 : b < 1000000) : opM (f2 fdivD) os ρ = .ok (.int (a / b : Nat)) ρ := opM2_of h (by
  rw [x_div, if_pos (cdiv_ok (j := (b : Int)) ⟨by omega, by omega⟩), Int.natCast_ediv])
theorem int_n {i : Int} (h : evO os ρ = .ok [.int i] ρ) : opM (f1 Dv.intD) os ρ = .ok (.int i) ρ := opM_of h (by rw [x_f1, x_int])
theorem ix_n {l : List Nat} (h : evO os ρ = .ok [lN l, .int (b : Nat)] ρ) (hb : b < l.length) : opM (f2 ixD) os ρ = .ok (.int (l.getD b 0 : Nat)) ρ := opM2_of h (ix_lN hb)
theorem ixt_n {l : List Nat} (h : evO os ρ = .ok [tN l, .int (b : Nat)] ρ) (hb : b < l.length) : opM (f2 ixD) os ρ = .ok (.int (l.getD b 0 : Nat)) ρ := opM2_of h (ix_tN hb)
theorem len_n {l : List Nat} (h : evO os ρ = .ok [lN l] ρ) : opM (f1 lenD) os ρ = .ok (.int (l.length : Nat)) ρ := opM_of h (len_lN l)
theorem lent_n {l : List Nat} (h : evO os ρ = .ok [tN l] ρ) : opM (f1 lenD) os ρ = .ok (.int (l.length : Nat)) ρ := opM_of h (len_tN l)
theorem tst_of {m : M D} {c : Bool} (h : m ρ = .ok (.bl c) ρ) : boolM m ρ = .ok c ρ := by rw [x_boolM, h, R.bind_ok]
theorem gt_n (h : evO os ρ = .ok [.int (a : Nat), .int (b : Nat)] ρ) : boolM (opM (f2 (cmpD .Gt)) os) ρ = .ok (decide (b < a)) ρ := tst_of (by
  rw [x_cmpGt]
  exact opM2_of h ((x_gtI _ _).trans (by rw [decide_eq_decide.mpr (show ((b : Int) < (a : Int)) ↔ b < a by omega)])))
theorem lt_n (h : evO os ρ = .ok [.int (a : Nat), .int (b : Nat)] ρ) : boolM (opM (f2 (cmpD .Lt)) os) ρ = .ok (decide (a < b)) ρ := tst_of (by
  rw [x_cmpLt]
  exact opM2_of h ((x_ltI _ _).trans (by rw [decide_eq_decide.mpr (show ((a : Int) < (b : Int)) ↔ a < b by omega)])))
theorem le_n (h : evO os ρ = .ok [.int (a : Nat), .int (b : Nat)] ρ) : boolM (opM (f2 (cmpD .LtE)) os) ρ = .ok (decide (a ≤ b)) ρ := tst_of (by
  rw [x_cmpLe]
  exact opM2_of h ((x_leI _ _).trans (by rw [decide_eq_decide.mpr (show ((a : Int) ≤ (b : Int)) ↔ a ≤ b by omega)])))
theorem ge_n (h : evO os ρ = .ok [.int (a : Nat), .int (b : Nat)] ρ) : boolM (opM (f2 (cmpD .GtE)) os) ρ = .ok (decide (b ≤ a)) ρ := tst_of (by
  rw [x_cmpGe]
  exact opM2_of h ((x_geI _ _).trans (by rw [decide_eq_decide.mpr (show ((b : Int) ≤ (a : Int)) ↔ b ≤ a by omega)])))
theorem eq_n (h : evO os ρ = .ok [.int (a : Nat), .int (b : Nat)] ρ) : boolM (opM (f2 (cmpD .Eq)) os) ρ = .ok (decide (a = b)) ρ := tst_of (by
  rw [x_cmpEq]
  exact opM2_of h ((x_eqI _ _).trans (by rw [decide_eq_decide.mpr (show ((a : Int) = (b : Int)) ↔ a = b by omega)])))
theorem min_n (h : evO os ρ = .ok [.int (a : Nat), .int (b : Nat)] ρ) : opM minL os ρ = .ok (.int (min a b : Nat)) ρ := opM_of h (by
  show some (D.int (min (a : Int) (b : Int))) = _
  rw [show min (a : Int) (b : Int) = ((min a b : Nat) : Int) by omega])
end
theorem and_t {m n : M Bool} {ρ : En} {c : Bool} (h : m ρ = .ok true ρ) (h2 : n ρ = .ok c ρ) : andM m n ρ = .ok c ρ := by
  rw [x_andM, h, R.bind_ok, if_pos rfl, h2]
theorem and_f {m n : M Bool} {ρ : En} (h : m ρ = .ok false ρ) : andM m n ρ = .ok false ρ := by
  rw [x_andM, h, R.bind_ok, if_neg (by decide)]
theorem ite_t {c : M Bool} {m n : M D} {ρ : En} (h : c ρ = .ok true ρ) : iteM c m n ρ = m ρ := by rw [x_iteM, h, R.bind_ok, if_pos rfl]
theorem ite_f {c : M Bool} {m n : M D} {ρ : En} (h : c ρ = .ok false ρ) : iteM c m n ρ = n ρ := by rw [x_iteM, h, R.bind_ok, if_neg (by decide)]
/-! lists -/
theorem add_lN {a b : List Nat} (h : a.length + b.length ≤ 1000000) : addD (lN a) (lN b) = some (lN (a ++ b)) := by
  have e : addD (.lst ((iN a).map D.int)) (.lst ((iN b).map D.int)) = some (.lst ((iN a).map D.int ++ (iN b).map D.int)) := if_pos (by
    rw [List.length_map, List.length_map, List.length_map, List.length_map, sizeLine_eq]
    omega)
  rw [← List.map_append, ← List.map_append] at e
  exact e
theorem ext_lN {j : Nat} {m : M D} {ρ ρ2 : En} {a b : List Nat} (h : ρ[j]? = some (.own (lN a))) (hm : m ρ = .ok (lN b) ρ) (hl : a.length + b.length ≤ 1000000) (h2 : ρ.set j (.own (lN (a ++ b))) = ρ2) : extS j m ρ = .ok .nx ρ2 := by
  unfold extS
  rw [h]
  show (m ρ).bind _ = _
  rw [hm, R.bind_ok, h]
  show (if ((iN a).map D.int).length + ((iN b).map D.int).length ≤ 16000000 then R.ok Fl.nx (ρ.set j (.own (.lst ((iN a).map D.int ++ (iN b).map D.int)))) else R.bad) = _
  rw [if_pos (by rw [List.length_map, List.length_map, List.length_map, List.length_map]; omega), ← List.map_append, ← List.map_append, ← h2]
theorem seq_lN (l : List Nat) : seqD (lN l) = some (l.map fun x : Nat => D.int (x : Nat)) := by
  refine (seq_l _).trans ?_
  rw [List.map_map]
  rfl
theorem seq_tNn (l : List Nat) : seqD (tN l) = some (l.map fun x : Nat => D.int (x : Nat)) := by
  rw [seq_tN, List.map_map]
  rfl
theorem lst_lN (l : List Nat) : D.lst (l.map fun x : Nat => D.int (x : Nat)) = lN l := by
  show _ = D.lst ((iN l).map D.int)
  rw [List.map_map]
  rfl
theorem tup_lN (l : List Nat) : tupleD (lN l) = some (tN l) := tup_l _
theorem rng_nn {n : Nat} (hn : n ≤ 10000) : rng1 [.int (n : Int)] = some ((List.range n).map fun x : Nat => D.int (x : Nat)) := by
  rw [rng_nat hn]
  unfold rangeL
  refine congrArg some (List.map_congr_left fun k _ => ?_)
  show D.int (0 + (k : Int) * 1) = _
  rw [show (0 : Int) + (k : Int) * 1 = (k : Int) by omega]
theorem rng2_nn {a b : Nat} (hb : b ≤ 10000) (ha : a ≤ 10000) : rng2 [.int (a : Int), .int (b : Int)] = some ((List.range' a (b - a)).map fun x : Nat => D.int (x : Nat)) := by
  rw [rng2_of (show InRg (a : Int) from ⟨by omega, by omega⟩) (show InRg (b : Int) from ⟨by omega, by omega⟩), show ((b : Int) - (a : Int)).toNat = b - a by omega]
  unfold rangeL
  rw [List.range'_eq_map_range, List.map_map]
  refine congrArg some (List.map_congr_left fun k _ => ?_)
  show D.int ((a : Int) + (k : Int) * 1) = D.int ((a + k : Nat) : Int)
  rw [show (a : Int) + (k : Int) * 1 = ((a + k : Nat) : Int) by omega]
theorem get_set {ρ : En} {v : Nat} {s : Sl} {i : Nat} (h : v ≠ i) : (ρ.set v s)[i]? = ρ[i]? := List.getElem?_set_ne h
theorem wipe_one {ρ : En} {v : Nat} : wipeE [v] ρ = ρ.set v .no := rfl
/-- [h(x) for x in l if p(x)], whatever stands in the env -/
theorem comp1 {v : Nat} {mi : M (List D)} {cond : M Bool} {elt : M D} {ρ : En} (l : List Nat) (p : Nat → Bool) (h : Nat → D) (hm : mi ρ = .ok (l.map fun x : Nat => D.int (x : Nat)) ρ) (hl : l.length ≤ 1000000) (hv : ρ[v]? = some .no)
    (he : ∀ a ∈ l, cond (ρ.set v (.val (.int (a : Nat)))) = .ok (p a) (ρ.set v (.val (.int (a : Nat)))) ∧ (p a = true → elt (ρ.set v (.val (.int (a : Nat)))) = .ok (h a) (ρ.set v (.val (.int (a : Nat)))))) : compM mi [v] (.nm v) cond elt ρ = .ok (.lst ((l.filter p).map h)) ρ := by
  have hvl : v < ρ.length := (List.getElem?_eq_some_iff.mp hv).1
  have hself : ρ.set v .no = ρ := by
    refine List.ext_getElem? fun i => ?_
    by_cases c : v = i
    · subst c
      rw [List.getElem?_set_self hvl, hv]
    · rw [List.getElem?_set_ne c]
  have hf : freeSlots [v] ρ = true := by
    unfold freeSlots
    rw [List.all_cons, hv]
    rfl
  have hw : wipeE [v] ρ = ρ := by rw [wipe_one, hself]
  refine compXG (own := [v]) (t := .nm v) l _ p h hm hl hf hw ?_ fun a ha => ⟨ρ.set v (.val (.int (a : Nat))), rfl, (he a ha).1, (he a ha).2, ?_⟩
  · unfold restore
    simp only [List.foldl_cons, List.foldl_nil, hv]
    exact hself
  · rw [wipe_one, List.set_set, hself]
end Dv
namespace K40
open PySem PySem.Spec PyProof.Rows L2 Dv
def topS (i : Nat) : Stmt := PySem.Challenge.pw_psaltery_k40_whole_weaves_and_bursts.main.body.getD i (.Pass ⟨0, 0, 0, 0⟩)
def q_law_draws : Df := ⟨"_law_draws", ["cell", "count", "rest", "digits", "seed", "draws", "k", "mixed"], 2, topS 9⟩
def q_law_order : Df := ⟨"_law_order", ["length", "depth", "order", "column", "at"], 2, topS 12⟩
def q_law_cell : Df := ⟨"_law_cell", ["script", "k"], 2, topS 8⟩
def q_law_is_integer : Df := ⟨"_law_is_integer", ["value"], 1, topS 10⟩
def q_law_is : Df := ⟨"_law_is", ["value", "due", "at"], 2, topS 11⟩
def q_woven_places : Df := ⟨"woven_places", ["length", "depth", "places", "column", "at"], 2, topS 1⟩
def q_touched_places : Df := ⟨"touched_places", ["length", "depth", "start", "size"], 4, topS 4⟩
def q_woven_bytes : Df := ⟨"woven_bytes", ["row", "depth", "at"], 2, topS 2⟩
def q_law_woven : Df := ⟨"_law_woven", ["row", "depth", "at"], 2, topS 13⟩
def q_unwoven_bytes : Df := ⟨"unwoven_bytes", ["row", "depth", "back", "at", "byte"], 2, topS 3⟩
def q_law_unwoven : Df := ⟨"_law_unwoven", ["row", "depth", "order", "back", "at"], 2, topS 14⟩
def q_law_knots : Df := ⟨"_law_knots", ["order", "size", "places", "knots", "knot", "some", "at"], 3, topS 15⟩
def q_touched_knots : Df := ⟨"touched_knots", ["length", "size", "places", "taken", "touched", "at", "knot"], 3, topS 5⟩
def q_is_sure_damage : Df := ⟨"is_sure_damage", ["length", "size", "places"], 3, topS 6⟩
def q_law_knots_hold : Df := ⟨"_law_knots_hold", ["order", "size", "places", "due", "sure", "one"], 3, topS 16⟩
def q_law : Df := ⟨"law", ["script", "k", "draws", "length", "row", "depth", "order", "turn", "wide", "woven", "start", "size", "places", "stretches", "modulus", "some", "run", "at", "one"], 1, topS 17⟩
def T0 : Tab := { fns := [], cons := [], free := ["abs", "all", "bool", "int", "isinstance", "len", "min", "range", "sorted", "str", "tuple", "zip"], excs := [] }
abbrev hs : List Df := []
def T1 : Tab := extT T0 q_law_draws
def T2 : Tab := extT T1 q_law_order
def T3 : Tab := extT T2 q_law_cell
def T4 : Tab := extT T3 q_law_is_integer
def T5 : Tab := extT T4 q_law_is
def T6 : Tab := extT T5 q_law_is
def T7 : Tab := extT T6 q_law_is
def T8 : Tab := extT T7 q_law_is
def T9 : Tab := extT T8 q_woven_places
def T10 : Tab := extT T9 q_touched_places
def T11 : Tab := extT T10 q_woven_bytes
def T12 : Tab := extT T11 q_law_woven
def T13 : Tab := extT T12 q_unwoven_bytes
def T14 : Tab := extT T13 q_law_unwoven
def T15 : Tab := extT T14 q_law_knots
def T16 : Tab := extT T15 q_touched_knots
def T17 : Tab := extT T16 q_is_sure_damage
def T18 : Tab := extT T17 q_law_knots_hold
abbrev qs : List Df := [q_law_draws, q_law_order, q_law_cell, q_law_is_integer, q_law_is, q_law_is, q_law_is, q_law_is, q_woven_places, q_touched_places, q_woven_bytes, q_law_woven, q_unwoven_bytes, q_law_unwoven, q_law_knots, q_touched_knots, q_is_sure_damage, q_law_knots_hold]
theorem tab_eq : mkTab (mkTabH T0 hs) qs = T18 := rfl
def f_law_draws : Fn := semOf T0 q_law_draws
theorem e_law_draws : f_law_draws = runB 8
    (seqS (asgS 2 (opM (f1 absD) [.ex (opM (f1 intD) [.va 0])]) true)
    (seqS (asgS 3 (opM (f2 (cmpD .GtE)) [.va 2, .ex (opM (f2 powD) [.ex (retM (.int 10)), .ex (retM (.int 18))])]) true)
    (seqS (asgS 4 (varM 2) false)
    (seqS (asgS 5 (lstM []) true)
    (seqS (forS (opI rng1 [.va 1]) (.nm 6)
      (ifS (andM (truM (.va 3)) (boolM (opM (f2 (cmpD .Gt)) [.va 2, .ex (retM (.int 0))])))
        (seqS (appS 5 (opM (f2 modD) [.ex (opM (f1 intD) [.va 2]), .ex (retM (.int 5040))]))
        (asgS 2 (opM (f2 fdivD) [.va 2, .ex (retM (.int 5040))]) true))
        (seqS (asgS 7 (opM (f2 modD) [.ex (opM (f1 intD) [.ex (opM (f2 addD) [.ex (opM (f2 addD) [.ex (opM (f2 mulD) [.va 4, .ex (retM (.int 48271))]), .ex (opM (f2 mulD) [.ex (opM (f2 addD) [.va 6, .ex (retM (.int 1))]), .ex (retM (.int 69621))])]), .ex (retM (.int 11))])]), .ex (retM (.int 2147483647))]) true)
        (seqS (asgS 7 (opM (f2 modD) [.ex (opM (f1 intD) [.ex (opM (f2 addD) [.ex (opM (f2 mulD) [.va 7, .va 7]), .ex (opM (f2 mulD) [.ex (retM (.int 40692)), .ex (opM (f2 addD) [.va 6, .ex (retM (.int 3))])])])]), .ex (retM (.int 2147483399))]) true)
        (appS 5 (opM (f2 modD) [.ex (opM (f1 intD) [.ex (opM (f2 fdivD) [.va 7, .ex (retM (.int 64))])]), .ex (retM (.int 5040))]))))))
    (retV 5)))))) := by kernel_rfl
def f_law_order : Fn := semOf T1 q_law_order
theorem e_law_order : f_law_order = runB 5
    (seqS (asgS 2 (lstM []) true)
    (seqS (forS (opI rng1 [.va 1]) (.nm 3)
      (asgS 2 (opM (f2 addD) [.va 2, .ex (compM (opI rng3 [.va 3, .va 0, .va 1]) [4] (.nm 4) yesM (varM 4))]) true))
    (retV 2))) := by kernel_rfl
def f_law_cell : Fn := semOf T2 q_law_cell
theorem e_law_cell : f_law_cell = runB 2
    (seqS (ifS (boolM (opM (f2 (cmpD .Lt)) [.va 1, .ex (opM (f1 lenD) [.va 0])]))
      (retS (opM (f2 ixD) [.va 0, .va 1]) false)
      nxS)
    (retS (opM (f2 addD) [.ex (opM (f2 mulD) [.ex (retM (.int 5)), .va 1]), .ex (retM (.int 3))]) true)) := by kernel_rfl
def f_law_is_integer : Fn := semOf T3 q_law_is_integer
theorem e_law_is_integer : f_law_is_integer = runB 1
    (retS (andV (opM (f1 (isiD "int")) [.va 0]) (tvM (notM (truM (.ex (opM (f1 (isiD "bool")) [.va 0])))))) false) := by kernel_rfl
def f_law_is_1 : Fn := semOf T4 q_law_is
-- _law_is: no reading: call _law_is
def f_law_is_2 : Fn := semOf T5 q_law_is
theorem e_law_is_2 : f_law_is_2 = runB 3
    (seqS (ifS (boolM (opM (f2 (cmpD .Is)) [.va 1, .ex (retM (.non))]))
      (retS (opM (f2 (cmpD .Is)) [.va 0, .ex (retM (.non))]) true)
      nxS)
    (seqS (ifS (truM (.ex (opM (f1 (isiD "bool")) [.va 1])))
      (retS (andV (opM (f1 (isiD "bool")) [.va 0]) (opM (f2 (cmpD .Eq)) [.va 0, .va 1])) false)
      nxS)
    (seqS (ifS (truM (.ex (opM (f1 (isiD "int")) [.va 1])))
      (retS (andV (callM f_law_is_integer [.va 0]) (opM (f2 (cmpD .Eq)) [.va 0, .va 1])) false)
      nxS)
    (seqS (ifS (truM (.ex (opM (f1 (isiD "str")) [.va 1])))
      (retS (andV (opM (f1 (isiD "str")) [.va 0]) (opM (f2 (cmpD .Eq)) [.va 0, .va 1])) false)
      nxS)
    (seqS (ifS (orM (notM (truM (.ex (opM (f1 (isiD "tuple")) [.va 0])))) (boolM (opM (f2 (cmpD .NotEq)) [.ex (opM (f1 lenD) [.va 0]), .ex (opM (f1 lenD) [.va 1])])))
      (retS (retM (.bl false)) false)
      nxS)
    (retS (opM (f1 allD) [.ex (compM (opI rng1 [.ex (opM (f1 lenD) [.va 1])]) [2] (.nm 2) yesM (callM f_law_is_1 [.ex (opM (f2 ixD) [.va 0, .va 2]), .ex (opM (f2 ixD) [.va 1, .va 2])]))]) true)))))) := by kernel_rfl
def f_law_is_3 : Fn := semOf T6 q_law_is
theorem e_law_is_3 : f_law_is_3 = runB 3
    (seqS (ifS (boolM (opM (f2 (cmpD .Is)) [.va 1, .ex (retM (.non))]))
      (retS (opM (f2 (cmpD .Is)) [.va 0, .ex (retM (.non))]) true)
      nxS)
    (seqS (ifS (truM (.ex (opM (f1 (isiD "bool")) [.va 1])))
      (retS (andV (opM (f1 (isiD "bool")) [.va 0]) (opM (f2 (cmpD .Eq)) [.va 0, .va 1])) false)
      nxS)
    (seqS (ifS (truM (.ex (opM (f1 (isiD "int")) [.va 1])))
      (retS (andV (callM f_law_is_integer [.va 0]) (opM (f2 (cmpD .Eq)) [.va 0, .va 1])) false)
      nxS)
    (seqS (ifS (truM (.ex (opM (f1 (isiD "str")) [.va 1])))
      (retS (andV (opM (f1 (isiD "str")) [.va 0]) (opM (f2 (cmpD .Eq)) [.va 0, .va 1])) false)
      nxS)
    (seqS (ifS (orM (notM (truM (.ex (opM (f1 (isiD "tuple")) [.va 0])))) (boolM (opM (f2 (cmpD .NotEq)) [.ex (opM (f1 lenD) [.va 0]), .ex (opM (f1 lenD) [.va 1])])))
      (retS (retM (.bl false)) false)
      nxS)
    (retS (opM (f1 allD) [.ex (compM (opI rng1 [.ex (opM (f1 lenD) [.va 1])]) [2] (.nm 2) yesM (callM f_law_is_2 [.ex (opM (f2 ixD) [.va 0, .va 2]), .ex (opM (f2 ixD) [.va 1, .va 2])]))]) true)))))) := by kernel_rfl
def f_law_is : Fn := semOf T7 q_law_is
theorem e_law_is : f_law_is = runB 3
    (seqS (ifS (boolM (opM (f2 (cmpD .Is)) [.va 1, .ex (retM (.non))]))
      (retS (opM (f2 (cmpD .Is)) [.va 0, .ex (retM (.non))]) true)
      nxS)
    (seqS (ifS (truM (.ex (opM (f1 (isiD "bool")) [.va 1])))
      (retS (andV (opM (f1 (isiD "bool")) [.va 0]) (opM (f2 (cmpD .Eq)) [.va 0, .va 1])) false)
      nxS)
    (seqS (ifS (truM (.ex (opM (f1 (isiD "int")) [.va 1])))
      (retS (andV (callM f_law_is_integer [.va 0]) (opM (f2 (cmpD .Eq)) [.va 0, .va 1])) false)
      nxS)
    (seqS (ifS (truM (.ex (opM (f1 (isiD "str")) [.va 1])))
      (retS (andV (opM (f1 (isiD "str")) [.va 0]) (opM (f2 (cmpD .Eq)) [.va 0, .va 1])) false)
      nxS)
    (seqS (ifS (orM (notM (truM (.ex (opM (f1 (isiD "tuple")) [.va 0])))) (boolM (opM (f2 (cmpD .NotEq)) [.ex (opM (f1 lenD) [.va 0]), .ex (opM (f1 lenD) [.va 1])])))
      (retS (retM (.bl false)) false)
      nxS)
    (retS (opM (f1 allD) [.ex (compM (opI rng1 [.ex (opM (f1 lenD) [.va 1])]) [2] (.nm 2) yesM (callM f_law_is_3 [.ex (opM (f2 ixD) [.va 0, .va 2]), .ex (opM (f2 ixD) [.va 1, .va 2])]))]) true)))))) := by kernel_rfl
def f_woven_places : Fn := semOf T8 q_woven_places
theorem e_woven_places : f_woven_places = runB 5
    (seqS (asgS 2 (lstM []) true)
    (seqS (forS (opI rng1 [.va 1]) (.nm 3)
      (extS 2 (compM (opI rng3 [.va 3, .va 0, .va 1]) [4] (.nm 4) yesM (varM 4))))
    (retV 2))) := by kernel_rfl
def f_touched_places : Fn := semOf T9 q_touched_places
theorem e_touched_places : f_touched_places = runB 4
    (retS (opM (f1 tupleD) [.ex (opM (f1 sortedD) [.ex (slB (.ex (callM f_woven_places [.va 0, .va 1])) (.va 2) (.ex (opM (f2 addD) [.va 2, .va 3])))])]) true) := by kernel_rfl
def f_woven_bytes : Fn := semOf T10 q_woven_bytes
theorem e_woven_bytes : f_woven_bytes = runB 3
    (retS (opM (f1 tupleD) [.ex (compM (seqM (callM f_woven_places [.ex (opM (f1 lenD) [.va 0]), .va 1])) [2] (.nm 2) yesM (opM (f2 ixD) [.va 0, .va 2]))]) true) := by kernel_rfl
def f_law_woven : Fn := semOf T11 q_law_woven
theorem e_law_woven : f_law_woven = runB 3
    (retS (opM (f1 tupleD) [.ex (compM (seqM (callM f_law_order [.ex (opM (f1 lenD) [.va 0]), .va 1])) [2] (.nm 2) yesM (opM (f2 ixD) [.va 0, .va 2]))]) true) := by kernel_rfl
def f_unwoven_bytes : Fn := semOf T12 q_unwoven_bytes
theorem e_unwoven_bytes : f_unwoven_bytes = runB 5
    (seqS (asgS 2 (opM (f2 mulD) [.ex (lstM [(retM (.int 0))]), .ex (opM (f1 lenD) [.va 0])]) true)
    (seqS (forS (opI zipD [.ex (callM f_woven_places [.ex (opM (f1 lenD) [.va 0]), .va 1]), .ex (varM 0)]) (.tp [(.nm 3), (.nm 4)])
      (setPS 2 (.va 3) (varM 4)))
    (retS (opM (f1 tupleD) [.va 2]) true))) := by kernel_rfl
def f_law_unwoven : Fn := semOf T13 q_law_unwoven
theorem e_law_unwoven : f_law_unwoven = runB 5
    (seqS (asgS 2 (callM f_law_order [.ex (opM (f1 lenD) [.va 0]), .va 1]) true)
    (seqS (asgS 3 (opM (f2 mulD) [.ex (lstM [(retM (.int 0))]), .ex (opM (f1 lenD) [.va 0])]) true)
    (seqS (forS (opI rng1 [.ex (opM (f1 lenD) [.va 0])]) (.nm 4)
      (setPS 3 (.ex (opM (f2 ixD) [.va 2, .va 4])) (opM (f2 ixD) [.va 0, .va 4])))
    (retS (opM (f1 tupleD) [.va 3]) true)))) := by kernel_rfl
def f_law_knots : Fn := semOf T14 q_law_knots
theorem e_law_knots : f_law_knots = runB 7
    (seqS (asgS 3 (lstM []) true)
    (seqS (forS (opI rng1 [.ex (opM (f1 lenD) [.va 0])]) (.nm 4)
      (seqS (asgS 5 (compM (seqM (varM 2)) [6] (.nm 6) (boolM (chainM (cmpD .LtE) (cmpD .Lt) (.ex (opM (f2 mulD) [.va 4, .ex (opM (f2 addD) [.va 1, .ex (retM (.int 2))])])) (.ex (opM (f2 ixD) [.va 0, .va 6])) (.ex (opM (f2 mulD) [.ex (opM (f2 addD) [.va 4, .ex (retM (.int 1))]), .ex (opM (f2 addD) [.va 1, .ex (retM (.int 2))])])))) (varM 6)) true)
      (ifS (boolM (opM (f2 (cmpD .Gt)) [.ex (opM (f1 lenD) [.va 5]), .ex (retM (.int 0))]))
        (appS 3 (tupM [(varM 4), (opM (f1 lenD) [.va 5])]))
        nxS)))
    (retS (opM (f1 tupleD) [.va 3]) true))) := by kernel_rfl
def f_touched_knots : Fn := semOf T15 q_touched_knots
theorem e_touched_knots : f_touched_knots = runB 7
    (seqS (asgS 3 (callM f_woven_places [.va 0, .ex (opM (f2 addD) [.va 1, .ex (retM (.int 2))])]) true)
    (seqS (asgS 4 dicM true)
    (seqS (forS (seqM (varM 2)) (.nm 5)
      (seqS (asgS 6 (opM (f2 fdivD) [.ex (opM (f2 ixD) [.va 3, .va 5]), .ex (opM (f2 addD) [.va 1, .ex (retM (.int 2))])]) true)
      (setPS 4 (.va 6) (opM (f2 addD) [.ex (getM 4 (varM 6) (retM (.int 0))), .ex (retM (.int 1))]))))
    (retS (opM (f1 tupleD) [.ex (sitM 4)]) true)))) := by kernel_rfl
def f_is_sure_damage : Fn := semOf T16 q_is_sure_damage
theorem e_is_sure_damage : f_is_sure_damage = runB 3
    (retS (genP (callM f_touched_knots [.va 0, .va 1, .va 2]) (q2 qLt qIt (qCo 2)) allB) true) := by kernel_rfl
def f_law_knots_hold : Fn := semOf T17 q_law_knots_hold
theorem e_law_knots_hold : f_law_knots_hold = runB 6
    (seqS (asgS 3 (callM f_law_knots [.va 0, .va 1, .va 2]) true)
    (seqS (ifS (notM (truM (.ex (callM f_law_is [.ex (callM f_touched_knots [.ex (opM (f1 lenD) [.va 0]), .va 1, .va 2]), .va 3]))))
      (retS (retM (.bl false)) false)
      nxS)
    (seqS (asgS 4 (opM (f2 (cmpD .Eq)) [.ex (opM (f1 lenD) [.ex (compM (seqM (varM 3)) [5] (.nm 5) (boolM (opM (f2 (cmpD .Gt)) [.ex (opM (f2 ixD) [.va 5, .ex (retM (.int 1))]), .ex (retM (.int 1))])) (varM 5))]), .ex (retM (.int 0))]) true)
    (retS (callM f_law_is [.ex (callM f_is_sure_damage [.ex (opM (f1 lenD) [.va 0]), .va 1, .va 2]), .va 4]) true)))) := by kernel_rfl
def f_law : Fn := semOf T18 q_law
theorem e_law : f_law = runB 19
    (seqS (forS (opI rng1 [.ex (retM (.int 3))]) (.nm 1)
      (seqS (asgS 2 (callM f_law_draws [.ex (callM f_law_cell [.va 0, .va 1]), .ex (retM (.int 60))]) true)
      (seqS (asgS 3 (opM (f2 modD) [.ex (opM (f1 intD) [.ex (opM (f2 ixD) [.va 2, .ex (retM (.int 0))])]), .ex (retM (.int 41))]) true)
      (seqS (asgS 4 (opM (f1 tupleD) [.ex (compM (opI rng1 [.va 3]) [17] (.nm 17) yesM (opM (f2 modD) [.ex (opM (f2 mulD) [.ex (opM (f1 intD) [.ex (opM (f2 ixD) [.va 2, .ex (opM (f2 addD) [.ex (retM (.int 1)), .ex (opM (f2 modD) [.va 17, .ex (retM (.int 20))])])])]), .ex (opM (f2 addD) [.va 17, .ex (retM (.int 1))])]), .ex (retM (.int 256))]))]) true)
      (seqS (asgS 5 (opM (f2 addD) [.ex (retM (.int 1)), .ex (opM (f2 modD) [.ex (opM (f1 intD) [.ex (opM (f2 ixD) [.va 2, .ex (retM (.int 21))])]), .ex (retM (.int 12))])]) true)
      (seqS (asgS 6 (callM f_law_order [.va 3, .va 5]) true)
      (seqS (ifS (notM (truM (.ex (callM f_law_is [.ex (callM f_woven_bytes [.va 4, .va 5]), .ex (callM f_law_woven [.va 4, .va 5])]))))
        (retS (retM (.bl false)) false)
        nxS)
      (seqS (ifS (notM (truM (.ex (callM f_law_is [.ex (callM f_unwoven_bytes [.va 4, .va 5]), .ex (callM f_law_unwoven [.va 4, .va 5])]))))
        (retS (retM (.bl false)) false)
        nxS)
      (seqS (ifS (notM (truM (.ex (callM f_law_is [.ex (callM f_unwoven_bytes [.ex (callM f_law_woven [.va 4, .va 5]), .va 5]), .va 4]))))
        (retS (retM (.bl false)) false)
        nxS)
      (seqS (forS (opI rng1 [.ex (retM (.int 6))]) (.nm 7)
        (seqS (asgS 10 (opM (f2 modD) [.ex (opM (f1 intD) [.ex (opM (f2 ixD) [.va 2, .ex (opM (f2 addD) [.ex (retM (.int 22)), .va 7])])]), .ex (opM (f2 addD) [.va 3, .ex (retM (.int 2))])]) true)
        (seqS (asgS 11 (iteM (boolM (opM (f2 (cmpD .Eq)) [.ex (opM (f2 modD) [.va 7, .ex (retM (.int 2))]), .ex (retM (.int 0))])) (opM (f2 modD) [.ex (opM (f1 intD) [.ex (opM (f2 ixD) [.va 2, .ex (opM (f2 addD) [.ex (retM (.int 28)), .va 7])])]), .ex (opM (f2 addD) [.va 3, .ex (retM (.int 2))])]) (opM (f2 fdivD) [.va 3, .va 5])) true)
        (seqS (asgS 12 (callM f_touched_places [.va 3, .va 5, .va 10, .va 11]) true)
        (seqS (ifS (notM (truM (.ex (callM f_law_is [.va 12, .ex (opM (f1 tupleD) [.ex (opM (f1 sortedD) [.ex (slB (.va 6) (.va 10) (.ex (opM (f2 addD) [.va 10, .va 11])))])])]))))
          (retS (retM (.bl false)) false)
          nxS)
        (seqS (asgS 13 (compM (seqM (varM 12)) [17] (.nm 17) yesM (opM (f2 fdivD) [.va 17, .va 5])) true)
        (ifS (andM (boolM (opM (f2 (cmpD .LtE)) [.va 11, .ex (opM (f2 fdivD) [.va 3, .va 5])])) (boolM (opM (f2 (cmpD .Gt)) [.ex (opM (f1 lenD) [.ex (compM (seqM (varM 13)) [18] (.nm 18) (boolM (opM (f2 (cmpD .Gt)) [.ex (cntM 13 (varM 18)), .ex (retM (.int 1))])) (varM 18))]), .ex (retM (.int 0))])))
          (retS (retM (.bl false)) false)
          nxS)))))))
      (seqS (asgS 8 (opM (f2 addD) [.ex (retM (.int 1)), .ex (opM (f2 modD) [.ex (opM (f1 intD) [.ex (opM (f2 ixD) [.va 2, .ex (retM (.int 21))])]), .ex (retM (.int 7))])]) true)
      (seqS (asgS 9 (callM f_law_order [.va 3, .ex (opM (f2 addD) [.va 8, .ex (retM (.int 2))])]) true)
      (forS (opI rng1 [.ex (retM (.int 4))]) (.nm 7)
        (seqS (asgS 14 (opM (f2 addD) [.ex (retM (.int 1)), .ex (opM (f2 modD) [.ex (opM (f1 intD) [.ex (opM (f2 ixD) [.va 2, .ex (opM (f2 addD) [.ex (retM (.int 34)), .va 7])])]), .ex (retM (.int 7))])]) true)
        (seqS (asgS 15 (opM (f1 tupleD) [.ex (compM (opI rng1 [.va 3]) [17] (.nm 17) (boolM (opM (f2 (cmpD .Eq)) [.ex (opM (f2 modD) [.ex (opM (f2 addD) [.ex (opM (f1 intD) [.ex (opM (f2 ixD) [.va 2, .ex (opM (f2 addD) [.ex (retM (.int 38)), .va 7])])]), .ex (opM (f2 mulD) [.va 17, .va 17])]), .va 14]), .ex (retM (.int 0))])) (varM 17))]) true)
        (seqS (asgS 10 (opM (f2 modD) [.ex (opM (f1 intD) [.ex (opM (f2 ixD) [.va 2, .ex (opM (f2 addD) [.ex (retM (.int 42)), .va 7])])]), .ex (opM (f2 addD) [.va 3, .ex (retM (.int 1))])]) true)
        (seqS (asgS 16 (opM (f1 tupleD) [.ex (compM (opI rng2 [.va 10, .ex (opM (minL) [.va 3, .ex (opM (f2 addD) [.va 10, .ex (opM (f2 fdivD) [.va 3, .ex (opM (f2 addD) [.va 8, .ex (retM (.int 2))])])])])]) [17] (.nm 17) yesM (varM 17))]) true)
        (seqS (ifS (orM (notM (truM (.ex (callM f_law_knots_hold [.va 9, .va 8, .va 15])))) (notM (truM (.ex (callM f_law_knots_hold [.va 9, .va 8, .va 16])))))
          (retS (retM (.bl false)) false)
          nxS)
        (ifS (orM (notM (truM (.ex (callM f_law_is [.ex (callM f_is_sure_damage [.va 3, .va 8, .va 16]), .ex (retM (.bl true))])))) (notM (truM (.ex (callM f_law_is [.ex (callM f_touched_knots [.va 3, .va 8, .ex (tupM [])]), .ex (tupM [])])))))
          (retS (retM (.bl false)) false)
          nxS)))))))))))))))))))
    (retS (retM (.bl true)) false)) := by kernel_rfl
/-- the defs as unknown functions that obey their readings: nothing can unfold them -/
structure Pr where
  f_law_draws : Fn
  e_law_draws : f_law_draws = runB 8
    (seqS (asgS 2 (opM (f1 absD) [.ex (opM (f1 intD) [.va 0])]) true)
    (seqS (asgS 3 (opM (f2 (cmpD .GtE)) [.va 2, .ex (opM (f2 powD) [.ex (retM (.int 10)), .ex (retM (.int 18))])]) true)
    (seqS (asgS 4 (varM 2) false)
    (seqS (asgS 5 (lstM []) true)
    (seqS (forS (opI rng1 [.va 1]) (.nm 6)
      (ifS (andM (truM (.va 3)) (boolM (opM (f2 (cmpD .Gt)) [.va 2, .ex (retM (.int 0))])))
        (seqS (appS 5 (opM (f2 modD) [.ex (opM (f1 intD) [.va 2]), .ex (retM (.int 5040))]))
        (asgS 2 (opM (f2 fdivD) [.va 2, .ex (retM (.int 5040))]) true))
        (seqS (asgS 7 (opM (f2 modD) [.ex (opM (f1 intD) [.ex (opM (f2 addD) [.ex (opM (f2 addD) [.ex (opM (f2 mulD) [.va 4, .ex (retM (.int 48271))]), .ex (opM (f2 mulD) [.ex (opM (f2 addD) [.va 6, .ex (retM (.int 1))]), .ex (retM (.int 69621))])]), .ex (retM (.int 11))])]), .ex (retM (.int 2147483647))]) true)
        (seqS (asgS 7 (opM (f2 modD) [.ex (opM (f1 intD) [.ex (opM (f2 addD) [.ex (opM (f2 mulD) [.va 7, .va 7]), .ex (opM (f2 mulD) [.ex (retM (.int 40692)), .ex (opM (f2 addD) [.va 6, .ex (retM (.int 3))])])])]), .ex (retM (.int 2147483399))]) true)
        (appS 5 (opM (f2 modD) [.ex (opM (f1 intD) [.ex (opM (f2 fdivD) [.va 7, .ex (retM (.int 64))])]), .ex (retM (.int 5040))]))))))
    (retV 5))))))
  f_law_order : Fn
  e_law_order : f_law_order = runB 5
    (seqS (asgS 2 (lstM []) true)
    (seqS (forS (opI rng1 [.va 1]) (.nm 3)
      (asgS 2 (opM (f2 addD) [.va 2, .ex (compM (opI rng3 [.va 3, .va 0, .va 1]) [4] (.nm 4) yesM (varM 4))]) true))
    (retV 2)))
  f_law_cell : Fn
  e_law_cell : f_law_cell = runB 2
    (seqS (ifS (boolM (opM (f2 (cmpD .Lt)) [.va 1, .ex (opM (f1 lenD) [.va 0])]))
      (retS (opM (f2 ixD) [.va 0, .va 1]) false)
      nxS)
    (retS (opM (f2 addD) [.ex (opM (f2 mulD) [.ex (retM (.int 5)), .va 1]), .ex (retM (.int 3))]) true))
  f_law_is_integer : Fn
  e_law_is_integer : f_law_is_integer = runB 1
    (retS (andV (opM (f1 (isiD "int")) [.va 0]) (tvM (notM (truM (.ex (opM (f1 (isiD "bool")) [.va 0])))))) false)
  f_law_is_1 : Fn
  f_law_is_2 : Fn
  e_law_is_2 : f_law_is_2 = runB 3
    (seqS (ifS (boolM (opM (f2 (cmpD .Is)) [.va 1, .ex (retM (.non))]))
      (retS (opM (f2 (cmpD .Is)) [.va 0, .ex (retM (.non))]) true)
      nxS)
    (seqS (ifS (truM (.ex (opM (f1 (isiD "bool")) [.va 1])))
      (retS (andV (opM (f1 (isiD "bool")) [.va 0]) (opM (f2 (cmpD .Eq)) [.va 0, .va 1])) false)
      nxS)
    (seqS (ifS (truM (.ex (opM (f1 (isiD "int")) [.va 1])))
      (retS (andV (callM f_law_is_integer [.va 0]) (opM (f2 (cmpD .Eq)) [.va 0, .va 1])) false)
      nxS)
    (seqS (ifS (truM (.ex (opM (f1 (isiD "str")) [.va 1])))
      (retS (andV (opM (f1 (isiD "str")) [.va 0]) (opM (f2 (cmpD .Eq)) [.va 0, .va 1])) false)
      nxS)
    (seqS (ifS (orM (notM (truM (.ex (opM (f1 (isiD "tuple")) [.va 0])))) (boolM (opM (f2 (cmpD .NotEq)) [.ex (opM (f1 lenD) [.va 0]), .ex (opM (f1 lenD) [.va 1])])))
      (retS (retM (.bl false)) false)
      nxS)
    (retS (opM (f1 allD) [.ex (compM (opI rng1 [.ex (opM (f1 lenD) [.va 1])]) [2] (.nm 2) yesM (callM f_law_is_1 [.ex (opM (f2 ixD) [.va 0, .va 2]), .ex (opM (f2 ixD) [.va 1, .va 2])]))]) true))))))
  f_law_is_3 : Fn
  e_law_is_3 : f_law_is_3 = runB 3
    (seqS (ifS (boolM (opM (f2 (cmpD .Is)) [.va 1, .ex (retM (.non))]))
      (retS (opM (f2 (cmpD .Is)) [.va 0, .ex (retM (.non))]) true)
      nxS)
    (seqS (ifS (truM (.ex (opM (f1 (isiD "bool")) [.va 1])))
      (retS (andV (opM (f1 (isiD "bool")) [.va 0]) (opM (f2 (cmpD .Eq)) [.va 0, .va 1])) false)
      nxS)
    (seqS (ifS (truM (.ex (opM (f1 (isiD "int")) [.va 1])))
      (retS (andV (callM f_law_is_integer [.va 0]) (opM (f2 (cmpD .Eq)) [.va 0, .va 1])) false)
      nxS)
    (seqS (ifS (truM (.ex (opM (f1 (isiD "str")) [.va 1])))
      (retS (andV (opM (f1 (isiD "str")) [.va 0]) (opM (f2 (cmpD .Eq)) [.va 0, .va 1])) false)
      nxS)
    (seqS (ifS (orM (notM (truM (.ex (opM (f1 (isiD "tuple")) [.va 0])))) (boolM (opM (f2 (cmpD .NotEq)) [.ex (opM (f1 lenD) [.va 0]), .ex (opM (f1 lenD) [.va 1])])))
      (retS (retM (.bl false)) false)
      nxS)
    (retS (opM (f1 allD) [.ex (compM (opI rng1 [.ex (opM (f1 lenD) [.va 1])]) [2] (.nm 2) yesM (callM f_law_is_2 [.ex (opM (f2 ixD) [.va 0, .va 2]), .ex (opM (f2 ixD) [.va 1, .va 2])]))]) true))))))
  f_law_is : Fn
  e_law_is : f_law_is = runB 3
    (seqS (ifS (boolM (opM (f2 (cmpD .Is)) [.va 1, .ex (retM (.non))]))
      (retS (opM (f2 (cmpD .Is)) [.va 0, .ex (retM (.non))]) true)
      nxS)
    (seqS (ifS (truM (.ex (opM (f1 (isiD "bool")) [.va 1])))
      (retS (andV (opM (f1 (isiD "bool")) [.va 0]) (opM (f2 (cmpD .Eq)) [.va 0, .va 1])) false)
      nxS)
    (seqS (ifS (truM (.ex (opM (f1 (isiD "int")) [.va 1])))
      (retS (andV (callM f_law_is_integer [.va 0]) (opM (f2 (cmpD .Eq)) [.va 0, .va 1])) false)
      nxS)
    (seqS (ifS (truM (.ex (opM (f1 (isiD "str")) [.va 1])))
      (retS (andV (opM (f1 (isiD "str")) [.va 0]) (opM (f2 (cmpD .Eq)) [.va 0, .va 1])) false)
      nxS)
    (seqS (ifS (orM (notM (truM (.ex (opM (f1 (isiD "tuple")) [.va 0])))) (boolM (opM (f2 (cmpD .NotEq)) [.ex (opM (f1 lenD) [.va 0]), .ex (opM (f1 lenD) [.va 1])])))
      (retS (retM (.bl false)) false)
      nxS)
    (retS (opM (f1 allD) [.ex (compM (opI rng1 [.ex (opM (f1 lenD) [.va 1])]) [2] (.nm 2) yesM (callM f_law_is_3 [.ex (opM (f2 ixD) [.va 0, .va 2]), .ex (opM (f2 ixD) [.va 1, .va 2])]))]) true))))))
  f_woven_places : Fn
  e_woven_places : f_woven_places = runB 5
    (seqS (asgS 2 (lstM []) true)
    (seqS (forS (opI rng1 [.va 1]) (.nm 3)
      (extS 2 (compM (opI rng3 [.va 3, .va 0, .va 1]) [4] (.nm 4) yesM (varM 4))))
    (retV 2)))
  f_touched_places : Fn
  e_touched_places : f_touched_places = runB 4
    (retS (opM (f1 tupleD) [.ex (opM (f1 sortedD) [.ex (slB (.ex (callM f_woven_places [.va 0, .va 1])) (.va 2) (.ex (opM (f2 addD) [.va 2, .va 3])))])]) true)
  f_woven_bytes : Fn
  e_woven_bytes : f_woven_bytes = runB 3
    (retS (opM (f1 tupleD) [.ex (compM (seqM (callM f_woven_places [.ex (opM (f1 lenD) [.va 0]), .va 1])) [2] (.nm 2) yesM (opM (f2 ixD) [.va 0, .va 2]))]) true)
  f_law_woven : Fn
  e_law_woven : f_law_woven = runB 3
    (retS (opM (f1 tupleD) [.ex (compM (seqM (callM f_law_order [.ex (opM (f1 lenD) [.va 0]), .va 1])) [2] (.nm 2) yesM (opM (f2 ixD) [.va 0, .va 2]))]) true)
  f_unwoven_bytes : Fn
  e_unwoven_bytes : f_unwoven_bytes = runB 5
    (seqS (asgS 2 (opM (f2 mulD) [.ex (lstM [(retM (.int 0))]), .ex (opM (f1 lenD) [.va 0])]) true)
    (seqS (forS (opI zipD [.ex (callM f_woven_places [.ex (opM (f1 lenD) [.va 0]), .va 1]), .ex (varM 0)]) (.tp [(.nm 3), (.nm 4)])
      (setPS 2 (.va 3) (varM 4)))
    (retS (opM (f1 tupleD) [.va 2]) true)))
  f_law_unwoven : Fn
  e_law_unwoven : f_law_unwoven = runB 5
    (seqS (asgS 2 (callM f_law_order [.ex (opM (f1 lenD) [.va 0]), .va 1]) true)
    (seqS (asgS 3 (opM (f2 mulD) [.ex (lstM [(retM (.int 0))]), .ex (opM (f1 lenD) [.va 0])]) true)
    (seqS (forS (opI rng1 [.ex (opM (f1 lenD) [.va 0])]) (.nm 4)
      (setPS 3 (.ex (opM (f2 ixD) [.va 2, .va 4])) (opM (f2 ixD) [.va 0, .va 4])))
    (retS (opM (f1 tupleD) [.va 3]) true))))
  f_law_knots : Fn
  e_law_knots : f_law_knots = runB 7
    (seqS (asgS 3 (lstM []) true)
    (seqS (forS (opI rng1 [.ex (opM (f1 lenD) [.va 0])]) (.nm 4)
      (seqS (asgS 5 (compM (seqM (varM 2)) [6] (.nm 6) (boolM (chainM (cmpD .LtE) (cmpD .Lt) (.ex (opM (f2 mulD) [.va 4, .ex (opM (f2 addD) [.va 1, .ex (retM (.int 2))])])) (.ex (opM (f2 ixD) [.va 0, .va 6])) (.ex (opM (f2 mulD) [.ex (opM (f2 addD) [.va 4, .ex (retM (.int 1))]), .ex (opM (f2 addD) [.va 1, .ex (retM (.int 2))])])))) (varM 6)) true)
      (ifS (boolM (opM (f2 (cmpD .Gt)) [.ex (opM (f1 lenD) [.va 5]), .ex (retM (.int 0))]))
        (appS 3 (tupM [(varM 4), (opM (f1 lenD) [.va 5])]))
        nxS)))
    (retS (opM (f1 tupleD) [.va 3]) true)))
  f_touched_knots : Fn
  e_touched_knots : f_touched_knots = runB 7
    (seqS (asgS 3 (callM f_woven_places [.va 0, .ex (opM (f2 addD) [.va 1, .ex (retM (.int 2))])]) true)
    (seqS (asgS 4 dicM true)
    (seqS (forS (seqM (varM 2)) (.nm 5)
      (seqS (asgS 6 (opM (f2 fdivD) [.ex (opM (f2 ixD) [.va 3, .va 5]), .ex (opM (f2 addD) [.va 1, .ex (retM (.int 2))])]) true)
      (setPS 4 (.va 6) (opM (f2 addD) [.ex (getM 4 (varM 6) (retM (.int 0))), .ex (retM (.int 1))]))))
    (retS (opM (f1 tupleD) [.ex (sitM 4)]) true))))
  f_is_sure_damage : Fn
  e_is_sure_damage : f_is_sure_damage = runB 3
    (retS (genP (callM f_touched_knots [.va 0, .va 1, .va 2]) (q2 qLt qIt (qCo 2)) allB) true)
  f_law_knots_hold : Fn
  e_law_knots_hold : f_law_knots_hold = runB 6
    (seqS (asgS 3 (callM f_law_knots [.va 0, .va 1, .va 2]) true)
    (seqS (ifS (notM (truM (.ex (callM f_law_is [.ex (callM f_touched_knots [.ex (opM (f1 lenD) [.va 0]), .va 1, .va 2]), .va 3]))))
      (retS (retM (.bl false)) false)
      nxS)
    (seqS (asgS 4 (opM (f2 (cmpD .Eq)) [.ex (opM (f1 lenD) [.ex (compM (seqM (varM 3)) [5] (.nm 5) (boolM (opM (f2 (cmpD .Gt)) [.ex (opM (f2 ixD) [.va 5, .ex (retM (.int 1))]), .ex (retM (.int 1))])) (varM 5))]), .ex (retM (.int 0))]) true)
    (retS (callM f_law_is [.ex (callM f_is_sure_damage [.ex (opM (f1 lenD) [.va 0]), .va 1, .va 2]), .va 4]) true))))
  f_law : Fn
  e_law : f_law = runB 19
    (seqS (forS (opI rng1 [.ex (retM (.int 3))]) (.nm 1)
      (seqS (asgS 2 (callM f_law_draws [.ex (callM f_law_cell [.va 0, .va 1]), .ex (retM (.int 60))]) true)
      (seqS (asgS 3 (opM (f2 modD) [.ex (opM (f1 intD) [.ex (opM (f2 ixD) [.va 2, .ex (retM (.int 0))])]), .ex (retM (.int 41))]) true)
      (seqS (asgS 4 (opM (f1 tupleD) [.ex (compM (opI rng1 [.va 3]) [17] (.nm 17) yesM (opM (f2 modD) [.ex (opM (f2 mulD) [.ex (opM (f1 intD) [.ex (opM (f2 ixD) [.va 2, .ex (opM (f2 addD) [.ex (retM (.int 1)), .ex (opM (f2 modD) [.va 17, .ex (retM (.int 20))])])])]), .ex (opM (f2 addD) [.va 17, .ex (retM (.int 1))])]), .ex (retM (.int 256))]))]) true)
      (seqS (asgS 5 (opM (f2 addD) [.ex (retM (.int 1)), .ex (opM (f2 modD) [.ex (opM (f1 intD) [.ex (opM (f2 ixD) [.va 2, .ex (retM (.int 21))])]), .ex (retM (.int 12))])]) true)
      (seqS (asgS 6 (callM f_law_order [.va 3, .va 5]) true)
      (seqS (ifS (notM (truM (.ex (callM f_law_is [.ex (callM f_woven_bytes [.va 4, .va 5]), .ex (callM f_law_woven [.va 4, .va 5])]))))
        (retS (retM (.bl false)) false)
        nxS)
      (seqS (ifS (notM (truM (.ex (callM f_law_is [.ex (callM f_unwoven_bytes [.va 4, .va 5]), .ex (callM f_law_unwoven [.va 4, .va 5])]))))
        (retS (retM (.bl false)) false)
        nxS)
      (seqS (ifS (notM (truM (.ex (callM f_law_is [.ex (callM f_unwoven_bytes [.ex (callM f_law_woven [.va 4, .va 5]), .va 5]), .va 4]))))
        (retS (retM (.bl false)) false)
        nxS)
      (seqS (forS (opI rng1 [.ex (retM (.int 6))]) (.nm 7)
        (seqS (asgS 10 (opM (f2 modD) [.ex (opM (f1 intD) [.ex (opM (f2 ixD) [.va 2, .ex (opM (f2 addD) [.ex (retM (.int 22)), .va 7])])]), .ex (opM (f2 addD) [.va 3, .ex (retM (.int 2))])]) true)
        (seqS (asgS 11 (iteM (boolM (opM (f2 (cmpD .Eq)) [.ex (opM (f2 modD) [.va 7, .ex (retM (.int 2))]), .ex (retM (.int 0))])) (opM (f2 modD) [.ex (opM (f1 intD) [.ex (opM (f2 ixD) [.va 2, .ex (opM (f2 addD) [.ex (retM (.int 28)), .va 7])])]), .ex (opM (f2 addD) [.va 3, .ex (retM (.int 2))])]) (opM (f2 fdivD) [.va 3, .va 5])) true)
        (seqS (asgS 12 (callM f_touched_places [.va 3, .va 5, .va 10, .va 11]) true)
        (seqS (ifS (notM (truM (.ex (callM f_law_is [.va 12, .ex (opM (f1 tupleD) [.ex (opM (f1 sortedD) [.ex (slB (.va 6) (.va 10) (.ex (opM (f2 addD) [.va 10, .va 11])))])])]))))
          (retS (retM (.bl false)) false)
          nxS)
        (seqS (asgS 13 (compM (seqM (varM 12)) [17] (.nm 17) yesM (opM (f2 fdivD) [.va 17, .va 5])) true)
        (ifS (andM (boolM (opM (f2 (cmpD .LtE)) [.va 11, .ex (opM (f2 fdivD) [.va 3, .va 5])])) (boolM (opM (f2 (cmpD .Gt)) [.ex (opM (f1 lenD) [.ex (compM (seqM (varM 13)) [18] (.nm 18) (boolM (opM (f2 (cmpD .Gt)) [.ex (cntM 13 (varM 18)), .ex (retM (.int 1))])) (varM 18))]), .ex (retM (.int 0))])))
          (retS (retM (.bl false)) false)
          nxS)))))))
      (seqS (asgS 8 (opM (f2 addD) [.ex (retM (.int 1)), .ex (opM (f2 modD) [.ex (opM (f1 intD) [.ex (opM (f2 ixD) [.va 2, .ex (retM (.int 21))])]), .ex (retM (.int 7))])]) true)
      (seqS (asgS 9 (callM f_law_order [.va 3, .ex (opM (f2 addD) [.va 8, .ex (retM (.int 2))])]) true)
      (forS (opI rng1 [.ex (retM (.int 4))]) (.nm 7)
        (seqS (asgS 14 (opM (f2 addD) [.ex (retM (.int 1)), .ex (opM (f2 modD) [.ex (opM (f1 intD) [.ex (opM (f2 ixD) [.va 2, .ex (opM (f2 addD) [.ex (retM (.int 34)), .va 7])])]), .ex (retM (.int 7))])]) true)
        (seqS (asgS 15 (opM (f1 tupleD) [.ex (compM (opI rng1 [.va 3]) [17] (.nm 17) (boolM (opM (f2 (cmpD .Eq)) [.ex (opM (f2 modD) [.ex (opM (f2 addD) [.ex (opM (f1 intD) [.ex (opM (f2 ixD) [.va 2, .ex (opM (f2 addD) [.ex (retM (.int 38)), .va 7])])]), .ex (opM (f2 mulD) [.va 17, .va 17])]), .va 14]), .ex (retM (.int 0))])) (varM 17))]) true)
        (seqS (asgS 10 (opM (f2 modD) [.ex (opM (f1 intD) [.ex (opM (f2 ixD) [.va 2, .ex (opM (f2 addD) [.ex (retM (.int 42)), .va 7])])]), .ex (opM (f2 addD) [.va 3, .ex (retM (.int 1))])]) true)
        (seqS (asgS 16 (opM (f1 tupleD) [.ex (compM (opI rng2 [.va 10, .ex (opM (minL) [.va 3, .ex (opM (f2 addD) [.va 10, .ex (opM (f2 fdivD) [.va 3, .ex (opM (f2 addD) [.va 8, .ex (retM (.int 2))])])])])]) [17] (.nm 17) yesM (varM 17))]) true)
        (seqS (ifS (orM (notM (truM (.ex (callM f_law_knots_hold [.va 9, .va 8, .va 15])))) (notM (truM (.ex (callM f_law_knots_hold [.va 9, .va 8, .va 16])))))
          (retS (retM (.bl false)) false)
          nxS)
        (ifS (orM (notM (truM (.ex (callM f_law_is [.ex (callM f_is_sure_damage [.va 3, .va 8, .va 16]), .ex (retM (.bl true))])))) (notM (truM (.ex (callM f_law_is [.ex (callM f_touched_knots [.va 3, .va 8, .ex (tupM [])]), .ex (tupM [])])))))
          (retS (retM (.bl false)) false)
          nxS)))))))))))))))))))
    (retS (retM (.bl true)) false))
def pr : Pr := ⟨f_law_draws, e_law_draws, f_law_order, e_law_order, f_law_cell, e_law_cell, f_law_is_integer, e_law_is_integer, f_law_is_1, f_law_is_2, e_law_is_2, f_law_is_3, e_law_is_3, f_law_is, e_law_is, f_woven_places, e_woven_places, f_touched_places, e_touched_places, f_woven_bytes, e_woven_bytes, f_law_woven, e_law_woven, f_unwoven_bytes, e_unwoven_bytes, f_law_unwoven, e_law_unwoven, f_law_knots, e_law_knots, f_touched_knots, e_touched_knots, f_is_sure_damage, e_is_sure_damage, f_law_knots_hold, e_law_knots_hold, f_law, e_law⟩
end K40
/-! weaving, as mathematics -/
namespace K40
def cnt (L d c : Nat) : Nat := (L - c + d - 1) / d
def col (L d c : Nat) : List Nat := (List.range (cnt L d c)).map fun k => c + k * d
def ords (L d n : Nat) : List Nat := (List.range n).flatMap (col L d)
def ord (L d : Nat) : List Nat := ords L d d
theorem ords_succ (L d n : Nat) : ords L d (n + 1) = ords L d n ++ col L d n := by
  unfold ords
  rw [List.range_succ, List.flatMap_append]
  simp
/-- no value at less than q places behind itself -/
def apart (f : Nat → Nat) (q : Nat) : List Nat → Bool
  | [] => true
  | x :: r => (r.take (q - 1)).all (fun y => f x != f y) && apart f q r
def okO (L d : Nat) : Bool :=
  decide ((ord L d).length = L) && ((ord L d).all (fun x => decide (x < L)) && ((List.range L).all (fun p => (ord L d).any fun x => x == p) && apart (fun x => x / d) (L / d) (ord L d)))
theorem all_ok : ∀ L, L < 41 → ∀ d, d < 13 → 0 < d → okO L d = true := by decide +kernel
theorem ord_len {L d : Nat} (h : L < 41) (hd : d < 13) (h0 : 0 < d) : (ord L d).length = L := by
  have := all_ok L h d hd h0
  unfold okO at this
  simp only [Bool.and_eq_true, decide_eq_true_eq] at this
  exact this.1
theorem ord_lt {L d : Nat} (h : L < 41) (hd : d < 13) (h0 : 0 < d) : ∀ x ∈ ord L d, x < L := by
  have := all_ok L h d hd h0
  unfold okO at this
  simp only [Bool.and_eq_true, decide_eq_true_eq, List.all_eq_true] at this
  exact this.2.1
theorem ord_mem {L d : Nat} (h : L < 41) (hd : d < 13) (h0 : 0 < d) : ∀ p, p < L → p ∈ ord L d := by
  have := all_ok L h d hd h0
  unfold okO at this
  simp only [Bool.and_eq_true, decide_eq_true_eq, List.all_eq_true, List.any_eq_true, List.mem_range, beq_iff_eq] at this
  intro p hp
  obtain ⟨x, hx, e⟩ := this.2.2.1 p hp
  exact e ▸ hx
theorem ord_apart {L d : Nat} (h : L < 41) (hd : d < 13) (h0 : 0 < d) : apart (fun x => x / d) (L / d) (ord L d) = true := by
  have := all_ok L h d hd h0
  unfold okO at this
  simp only [Bool.and_eq_true] at this
  exact this.2.2.2
/-! ### a run of at most q places -/
theorem apart_drop {f : Nat → Nat} {q : Nat} : ∀ (l : List Nat) (s : Nat), apart f q l = true → apart f q (l.drop s) = true
  | l, 0, h => h
  | [], s + 1, h => by simpa using h
  | x :: r, s + 1, h => by
    unfold apart at h
    rw [Bool.and_eq_true] at h
    exact apart_drop r s h.2
theorem apart_take {f : Nat → Nat} {q : Nat} : ∀ (l : List Nat) (n : Nat), n ≤ q → apart f q l = true → ((l.take n).map f).Nodup
  | l, 0, _, _ => by simp
  | [], n + 1, _, _ => by simp
  | x :: r, n + 1, hn, h => by
    unfold apart at h
    rw [Bool.and_eq_true] at h
    rw [List.take_succ_cons, List.map_cons, List.nodup_cons]
    refine ⟨fun hm => ?_, apart_take r n (by omega) h.2⟩
    obtain ⟨y, hy, e⟩ := List.mem_map.mp hm
    have hy' : y ∈ r.take (q - 1) := by
      have : r.take n = (r.take (q - 1)).take n := by rw [List.take_take]; congr 1; omega
      rw [this] at hy
      exact List.mem_of_mem_take hy
    have := (List.all_eq_true.mp h.1) y hy'
    simp at this
    exact this e.symm
theorem run_nodup {L d s n : Nat} (h : L < 41) (hd : d < 13) (h0 : 0 < d) (hn : n ≤ L / d) : ((((ord L d).drop s).take n).map fun x => x / d).Nodup :=
  apart_take _ n hn (apart_drop _ s (ord_apart h hd h0))
/-! ### laying and undoing -/
def wov (o row : List Nat) : List Nat := o.map fun x => row.getD x 0
def lay (o row b : List Nat) : List Nat := (o.zip row).foldl (fun b p => b.set p.1 p.2) b
theorem lay_len : ∀ (o row b : List Nat), (lay o row b).length = b.length
  | [], row, b => rfl
  | x :: o, [], b => rfl
  | x :: o, y :: row, b => by
    show (lay o row (b.set x y)).length = _
    rw [lay_len, List.length_set]
theorem lay_at {f : Nat → Nat} : ∀ (o b : List Nat) (p : Nat), p < b.length → (lay o (o.map f) b).getD p 0 = if p ∈ o then f p else b.getD p 0
  | [], b, p, h => by simp [lay]
  | x :: o, b, p, h => by
    show (lay o (o.map f) (b.set x (f x))).getD p 0 = _
    rw [lay_at o (b.set x (f x)) p (by rw [List.length_set]; exact h)]
    by_cases c : p ∈ o
    · rw [if_pos c, if_pos (List.mem_cons_of_mem _ c)]
    · rw [if_neg c]
      by_cases e : p = x
      · subst e
        rw [if_pos (List.mem_cons_self ..), List.getD_eq_getElem?_getD, List.getElem?_set_self h]
        rfl
      · rw [if_neg (by simp [c, e]), List.getD_eq_getElem?_getD, List.getElem?_set_ne (fun z => e z.symm), ← List.getD_eq_getElem?_getD]
theorem lay_wov {L d : Nat} {row : List Nat} (h : L < 41) (hd : d < 13) (h0 : 0 < d) (hr : row.length = L) : lay (ord L d) (wov (ord L d) row) (List.replicate L 0) = row := by
  refine List.ext_getElem (by rw [lay_len, List.length_replicate, hr]) fun i h1 h2 => ?_
  have hi : i < L := by rw [← hr]; exact h2
  have q := lay_at (f := fun x => row.getD x 0) (ord L d) (List.replicate L 0) i (by rw [List.length_replicate]; exact hi)
  rw [if_pos (ord_mem h hd h0 i hi)] at q
  have e1 : (lay (ord L d) (wov (ord L d) row) (List.replicate L 0))[i] = (lay (ord L d) (wov (ord L d) row) (List.replicate L 0)).getD i 0 := by
    rw [List.getD_eq_getElem?_getD, List.getElem?_eq_getElem h1]; rfl
  have e2 : row[i] = row.getD i 0 := by
    rw [List.getD_eq_getElem?_getD, List.getElem?_eq_getElem h2]; rfl
  rw [e1, e2]
  exact q
theorem lay_take (o row b : List Nat) (i : Nat) (h : i < o.length) (h2 : i < row.length) : lay (o.take (i + 1)) (row.take (i + 1)) b = (lay (o.take i) (row.take i) b).set (o.getD i 0) (row.getD i 0) := by
  unfold lay
  have e : (o.take (i + 1)).zip (row.take (i + 1)) = (o.take i).zip (row.take i) ++ [(o.getD i 0, row.getD i 0)] := by
    have ho : o.take (i + 1) = o.take i ++ [o.getD i 0] := by
      rw [List.take_add_one, List.getElem?_eq_getElem h, List.getD_eq_getElem?_getD, List.getElem?_eq_getElem h]; rfl
    have hr : row.take (i + 1) = row.take i ++ [row.getD i 0] := by
      rw [List.take_add_one, List.getElem?_eq_getElem h2, List.getD_eq_getElem?_getD, List.getElem?_eq_getElem h2]; rfl
    rw [ho, hr, List.zip_append (by rw [List.length_take, List.length_take]; omega)]
    rfl
  rw [e, List.foldl_append]
  rfl
/-! ### knots -/
def knt (o : List Nat) (s : Nat) (ps : List Nat) (k : Nat) : Nat := (ps.filter fun p => decide (o.getD p 0 / s = k)).length
def kns (o : List Nat) (s n : Nat) (ps : List Nat) : List (Nat × Nat) := ((List.range n).filter fun k => decide (0 < knt o s ps k)).map fun k => (k, knt o s ps k)
theorem knt_snoc (o : List Nat) (s : Nat) (ps : List Nat) (p k : Nat) : knt o s (ps ++ [p]) k = knt o s ps k + if o.getD p 0 / s = k then 1 else 0 := by
  unfold knt
  rw [List.filter_append, List.length_append]
  by_cases c : o.getD p 0 / s = k
  · rw [List.filter_cons_of_pos (by simpa using c), if_pos c]
    rfl
  · rw [List.filter_cons_of_neg (by simpa using c), if_neg c]
    rfl
theorem knt_pos {o : List Nat} {s k : Nat} {ps : List Nat} (h : 0 < knt o s ps k) : ∃ p ∈ ps, o.getD p 0 / s = k := by
  unfold knt at h
  obtain ⟨p, hp⟩ := List.exists_mem_of_length_pos h
  have := List.mem_filter.mp hp
  exact ⟨p, this.1, by simpa using this.2⟩
theorem kns_succ (o : List Nat) (s n : Nat) (ps : List Nat) : kns o s (n + 1) ps = if 0 < knt o s ps n then kns o s n ps ++ [(n, knt o s ps n)] else kns o s n ps := by
  unfold kns
  rw [List.range_succ, List.filter_append, List.map_append]
  by_cases c : 0 < knt o s ps n <;> simp [c]
/-- the dict while it grows -/
structure Grown (o : List Nat) (s : Nat) (ps : List Nat) (ks : List Nat) : Prop where
  nd : ks.Nodup
  mem : ∀ k, k ∈ ks ↔ 0 < knt o s ps k
theorem grown_nil (o : List Nat) (s : Nat) : Grown o s [] [] := ⟨List.nodup_nil, fun k => by simp [knt]⟩
theorem grown_old {o ps ks : List Nat} {s p : Nat} (g : Grown o s ps ks) (h : o.getD p 0 / s ∈ ks) : Grown o s (ps ++ [p]) ks := ⟨g.nd, fun k => by
  rw [knt_snoc]
  by_cases c : o.getD p 0 / s = k
  · subst c
    rw [if_pos rfl]
    exact ⟨fun _ => by omega, fun _ => h⟩
  · simp only [c, if_false, Nat.add_zero]
    exact g.mem k⟩
theorem grown_new {o ps ks : List Nat} {s p : Nat} (g : Grown o s ps ks) (h : o.getD p 0 / s ∉ ks) : Grown o s (ps ++ [p]) (ks ++ [o.getD p 0 / s]) := ⟨by
  rw [List.nodup_append]
  refine ⟨g.nd, by simp, fun a ha b hb => ?_⟩
  rw [List.mem_singleton] at hb
  subst hb
  exact fun z => h (z ▸ ha), fun k => by
  rw [knt_snoc, List.mem_append, List.mem_singleton]
  by_cases c : o.getD p 0 / s = k
  · subst c
    simp
  · simp only [c, if_false, Nat.add_zero]
    rw [g.mem k]
    exact ⟨fun z => z.resolve_right fun y => c y.symm, .inl⟩⟩
theorem grown_perm {o ps ks : List Nat} {s n : Nat} (g : Grown o s ps ks) (hn : ∀ p ∈ ps, o.getD p 0 / s < n) : (ks.map fun k => (k, knt o s ps k)).Perm (kns o s n ps) := by
  unfold kns
  refine List.Perm.map _ ?_
  rw [List.perm_ext_iff_of_nodup g.nd (List.nodup_range.filter _)]
  intro k
  rw [g.mem k, List.mem_filter, List.mem_range]
  constructor
  · intro h
    obtain ⟨p, hp, e⟩ := knt_pos h
    exact ⟨e ▸ hn p hp, by simpa using h⟩
  · intro h
    simpa using h.2
theorem kns_mem {o ps : List Nat} {s n : Nat} {q : Nat × Nat} (h : q ∈ kns o s n ps) : q.1 < n ∧ 0 < q.2 ∧ q.2 = knt o s ps q.1 := by
  unfold kns at h
  obtain ⟨k, hk, rfl⟩ := List.mem_map.mp h
  have := List.mem_filter.mp hk
  exact ⟨List.mem_range.mp this.1, by simpa using this.2, rfl⟩
theorem knt_le (o : List Nat) (s : Nat) (ps : List Nat) (k : Nat) : knt o s ps k ≤ ps.length := List.length_filter_le _ _
theorem kns_len (o : List Nat) (s n : Nat) (ps : List Nat) : (kns o s n ps).length ≤ n := by
  unfold kns
  rw [List.length_map]
  exact Nat.le_trans (List.length_filter_le _ _) (by simp)
/-- all touched once -/
theorem knt_one {o ps : List Nat} {s k : Nat} (h : (ps.map fun p => o.getD p 0 / s).Nodup) : knt o s ps k ≤ 1 := by
  induction ps with
  | nil => simp [knt]
  | cons p r ih =>
    rw [List.map_cons, List.nodup_cons] at h
    have ih := ih h.2
    unfold knt at *
    by_cases c : o.getD p 0 / s = k
    · have z : r.filter (fun p => decide (o.getD p 0 / s = k)) = [] := by
        rw [List.filter_eq_nil_iff]
        intro y hy e
        refine h.1 ?_
        rw [c]
        exact List.mem_map.mpr ⟨y, hy, by simpa using e⟩
      rw [List.filter_cons_of_pos (by simpa using c), List.length_cons, z]
      simp
    · rw [List.filter_cons_of_neg (by simpa using c)]
      exact ih
theorem run_map (o : List Nat) (a n : Nat) (h : a + n ≤ o.length) : (List.range' a n).map (fun p => o.getD p 0) = (o.drop a).take n := by
  refine List.ext_getElem (by simp; omega) fun i h1 h2 => ?_
  rw [List.length_map, List.length_range'] at h1
  simp [List.getElem_range', List.getElem_take, List.getElem_drop, List.getD_eq_getElem?_getD, List.getElem?_eq_getElem (show a + i < o.length by omega)]
theorem run_one {L s a n k : Nat} (h : L < 41) (hd : s < 13) (h0 : 0 < s) (hn : n ≤ L / s) (ha : a + n ≤ L) : knt (ord L s) s (List.range' a n) k ≤ 1 := by
  refine knt_one ?_
  have q := run_nodup (s := a) h hd h0 hn
  rw [← run_map (ord L s) a n (by rw [ord_len h hd h0]; exact ha), List.map_map] at q
  exact q
end K40
namespace K40
open PySem PyProof.Rows L2 Dv
/-! ### columns -/
theorem rngC {L d c : Nat} (hL : L < 41) (hd : d < 13) (h0 : 0 < d) (hc : c < 13) : rng3 [.int (c : Nat), .int (L : Nat), .int (d : Nat)] = some ((col L d c).map fun x : Nat => D.int (x : Nat)) := by
  have : ∀ L : Nat, L < 41 → ∀ d : Nat, d < 13 → ∀ c : Nat, c < 13 → 0 < d → RgC (c : Int) (L : Int) (d : Int) (Builtin.Range.rangeSize (c : Int) (L : Int) (d : Int)).toNat ∧ (Builtin.Range.rangeSize (c : Int) (L : Int) (d : Int)).toNat = cnt L d c := by decide +kernel
  have q := this L hL d hd c hc h0
  show (if RgC (c : Int) (L : Int) (d : Int) (Builtin.Range.rangeSize (c : Int) (L : Int) (d : Int)).toNat then some (rangeL (c : Int) (Builtin.Range.rangeSize (c : Int) (L : Int) (d : Int)).toNat (d : Int)) else none) = _
  rw [if_pos q.1, q.2]
  unfold rangeL col
  rw [List.map_map]
  refine congrArg some (List.map_congr_left fun k _ => ?_)
  show D.int ((c : Int) + (k : Int) * (d : Int)) = D.int ((c + k * d : Nat) : Int)
  rw [Int.natCast_add, Int.natCast_mul]
theorem col_len {L d c : Nat} (h0 : 0 < d) : (col L d c).length ≤ L + 13 := by
  unfold col cnt
  rw [List.length_map, List.length_range]
  rcases Nat.lt_or_ge (L - c) 1 with h | h
  · have : L - c = 0 := by omega
    rw [this, Nat.div_eq_of_lt (by omega)]
    omega
  · have : (L - c + d - 1) / d ≤ L - c := by
      rw [Nat.div_le_iff_le_mul_add_pred h0]
      have : L - c ≤ d * (L - c) := Nat.le_mul_of_pos_left _ h0
      omega
    omega
theorem ords_len {L d : Nat} (h0 : 0 < d) : ∀ n, (ords L d n).length ≤ n * (L + 13)
  | 0 => by simp [ords]
  | n + 1 => by
    rw [ords_succ, List.length_append, Nat.succ_mul]
    have := ords_len (L := L) h0 n
    have := col_len (L := L) (c := n) h0
    omega
theorem small {n L : Nat} (hn : n ≤ 12) (hL : L < 41) : n * (L + 13) ≤ 1000 := Nat.le_trans (Nat.mul_le_mul hn (show L + 13 ≤ 54 by omega)) (by decide)
section
variable (Z : Pr)
def colM : M D := (compM (Dv.opI rng3 [.va 3, .va 0, .va 1]) [4] (.nm 4) yesM (varM 4))
theorem col_ok {L d c : Nat} (hL : L < 41) (hd : d < 13) (h0 : 0 < d) (hc : c < 13) (x2 : Sl) : colM [.val (.int (L : Nat)), .val (.int (d : Nat)), x2, .val (.int (c : Nat)), .no] = .ok (lN (col L d c)) [.val (.int (L : Nat)), .val (.int (d : Nat)), x2, .val (.int (c : Nat)), .no] := by
  have q := compX (own := [4]) (t := .nm 4) (elt := varM 4) (mi := Dv.opI rng3 [.va 3, .va 0, .va 1]) (col L d c) (fun x : Nat => D.int (x : Nat)) (fun x : Nat => D.int (x : Nat)) (ρ := [.val (.int (L : Nat)), .val (.int (d : Nat)), x2, .val (.int (c : Nat)), .no]) (ρ1 := [.val (.int (L : Nat)), .val (.int (d : Nat)), x2, .val (.int (c : Nat)), .no]) (ρw := [.val (.int (L : Nat)), .val (.int (d : Nat)), x2, .val (.int (c : Nat)), .no])
    (opI_of (ds := [.int (c : Nat), .int (L : Nat), .int (d : Nat)]) rfl (rngC hL hd h0 hc)) (by have := col_len (L := L) (c := c) h0; omega) rfl rfl rfl fun a _ => ⟨[.val (.int (L : Nat)), .val (.int (d : Nat)), x2, .val (.int (c : Nat)), .val (.int (a : Nat))], rfl, rfl, rfl⟩
  rw [lst_lN] at q
  exact q
theorem ords_loop {s : S} {L d : Nat} (hL : L < 41) (hd : d < 13) (h0 : 0 < d)
    (hs : ∀ (acc : List Nat) (c : Nat), c < 13 → acc.length ≤ 10000 → ∀ x3, s [.val (.int (L : Nat)), .val (.int (d : Nat)), .own (lN acc), .val (.int (c : Nat)), x3] = .ok .nx [.val (.int (L : Nat)), .val (.int (d : Nat)), .own (lN (acc ++ col L d c)), .val (.int (c : Nat)), x3] ∨ x3 ≠ .no) :
    runB 5 (seqS (asgS 2 (lstM []) true) (seqS (forS (Dv.opI rng1 [.va 1]) (.nm 3) s) (retV 2))) [.int (L : Nat), .int (d : Nat)] = .ok (lN (ord L d)) := by
  obtain ⟨ρ', hl, y3, he⟩ := for_range (v := 3) (lo := 0) (c := 1) (n := d) (s := s) (ρ := [.val (.int (L : Nat)), .val (.int (d : Nat)), .own (lN []), .no, .no])
    (fun i ρ => ∃ y3, ρ = [.val (.int (L : Nat)), .val (.int (d : Nat)), .own (lN (ords L d i)), y3, .no]) ⟨.no, rfl⟩ (by
      rintro i _ hi ⟨y3, rfl⟩
      rw [show (0 : Int) + (i : Int) * 1 = (i : Int) by omega]
      have h1 := ords_len (L := L) h0 i
      have h2 := small (n := i) (L := L) (by omega) hL
      rcases hs (ords L d i) i (by omega) (by omega) .no with q | q
      · refine ⟨_, .inl q, .val (.int (i : Nat)), ?_⟩
        rw [ords_succ]
      · exact absurd rfl q)
  refine run_of (ρ := [.val (.int (L : Nat)), .val (.int (d : Nat)), .no, y3, .no]) ?_
  refine (seq_nx (ρ' := [.val (.int (L : Nat)), .val (.int (d : Nat)), .own (lN []), .no, .no]) rfl).trans ?_
  refine (seq_nx ((forI (ds := [.int (d : Nat)]) rfl (rng_nat (n := d) (by omega))).trans hl)).trans ?_
  rw [he]
  rfl
theorem order_ok {L d : Nat} (hL : L < 41) (hd : d < 13) (h0 : 0 < d) : Z.f_law_order [.int (L : Nat), .int (d : Nat)] = .ok (lN (ord L d)) := by
  rw [Z.e_law_order]
  refine ords_loop hL hd h0 fun acc c hc ha x3 => ?_
  by_cases e : x3 = .no
  · subst e
    left
    have hcl := col_len (L := L) (c := c) h0
    exact asg_to (opM2_of (a := lN acc) (b := lN (col L d c)) (by
      rw [x_ev2]
      show R.bind (evO [.ex _] [.val (.int (L : Nat)), .val (.int (d : Nat)), .own (lN acc), .val (.int (c : Nat)), .no]) _ = _
      rw [x_ev1, show compM (Dv.opI rng3 [.va 3, .va 0, .va 1]) [4] (.nm 4) yesM (varM 4) [.val (.int (L : Nat)), .val (.int (d : Nat)), .own (lN acc), .val (.int (c : Nat)), .no] = _ from col_ok hL hd h0 hc _]
      rfl) (add_lN (by omega))) rfl
  · exact .inr e
theorem places_ok {L d : Nat} (hL : L < 41) (hd : d < 13) (h0 : 0 < d) : Z.f_woven_places [.int (L : Nat), .int (d : Nat)] = .ok (lN (ord L d)) := by
  rw [Z.e_woven_places]
  refine ords_loop hL hd h0 fun acc c hc ha x3 => ?_
  by_cases e : x3 = .no
  · subst e
    left
    have hcl := col_len (L := L) (c := c) h0
    exact ext_lN rfl (col_ok hL hd h0 hc _) (by omega) rfl
  · exact .inr e
/-! ### laying -/
theorem wov_of {f : Fn} {row : List Nat} {d : Nat} (hf : f [.int (row.length : Nat), .int (d : Nat)] = .ok (lN (ord row.length d))) (hL : row.length < 41) (hd : d < 13) (h0 : 0 < d) :
    runB 3 (retS (opM (f1 tupleD) [.ex (compM (seqM (callM f [.ex (opM (f1 lenD) [.va 0]), .va 1])) [2] (.nm 2) yesM (opM (f2 ixD) [.va 0, .va 2]))]) true) [tN row, .int (d : Nat)] = .ok (tN (wov (ord row.length d) row)) := by
  have hm : callM f [.ex (opM (f1 lenD) [.va 0]), .va 1] [.val (tN row), .val (.int (d : Nat)), .no] = .ok (lN (ord row.length d)) [.val (tN row), .val (.int (d : Nat)), .no] :=
    callM_ind [.int (row.length : Nat), .int (d : Nat)] (ev_cons (opM_of (ds := [tN row]) rfl (len_tN row)) rfl) (indep_lI _) hf
  have q := compX (own := [2]) (t := .nm 2) (elt := opM (f2 ixD) [.va 0, .va 2]) (mi := seqM (callM f [.ex (opM (f1 lenD) [.va 0]), .va 1])) (ord row.length d) (fun x : Nat => D.int (x : Nat)) (fun x : Nat => D.int (row.getD x 0 : Nat)) (ρ := [.val (tN row), .val (.int (d : Nat)), .no]) (ρ1 := [.val (tN row), .val (.int (d : Nat)), .no]) (ρw := [.val (tN row), .val (.int (d : Nat)), .no])
    (seq_one hm (seq_lN _)) (by rw [ord_len hL hd h0]; omega) rfl rfl rfl fun a ha => ⟨[.val (tN row), .val (.int (d : Nat)), .val (.int (a : Nat))], rfl, opM2_of (a := tN row) (b := .int (a : Nat)) rfl (ix_tN (ord_lt hL hd h0 a ha)), rfl⟩
  have e : D.lst ((ord row.length d).map fun x : Nat => D.int (row.getD x 0 : Nat)) = lN (wov (ord row.length d) row) := by
    rw [← lst_lN]
    unfold wov
    rw [List.map_map]
    rfl
  rw [e] at q
  exact run_of (ret_fresh (opM_of (ev_cons q rfl) (tup_lN _)))
theorem woven_ok {row : List Nat} {d : Nat} (hL : row.length < 41) (hd : d < 13) (h0 : 0 < d) : Z.f_woven_bytes [tN row, .int (d : Nat)] = .ok (tN (wov (ord row.length d) row)) := by
  rw [Z.e_woven_bytes]
  exact wov_of (places_ok Z hL hd h0) hL hd h0
theorem lwoven_ok {row : List Nat} {d : Nat} (hL : row.length < 41) (hd : d < 13) (h0 : 0 < d) : Z.f_law_woven [tN row, .int (d : Nat)] = .ok (tN (wov (ord row.length d) row)) := by
  rw [Z.e_law_woven]
  exact wov_of (order_ok Z hL hd h0) hL hd h0
def unw (row : List Nat) (d : Nat) : List Nat := lay (ord row.length d) row (List.replicate row.length 0)
theorem zeros_ok (row : List Nat) (h : row.length ≤ 1000) (ρ : En) (h0 : ρ[0]? = some (.val (tN row))) : opM (f2 mulD) [.ex (lstM [(retM (.int 0))]), .ex (opM (f1 lenD) [.va 0])] ρ = .ok (lN (List.replicate row.length 0)) ρ := by
  refine opM2_of (a := .lst [.int 0]) (b := .int (row.length : Nat)) (ev_cons rfl (ev_cons (opM_of (ds := [tN row]) ?_ (len_tN row)) rfl)) ?_
  · rw [x_ev2, h0]
    show R.bind (.ok [] ρ) _ = _
    rw [R.bind_ok, h0]
    rfl
  · rw [mul_l 0 (n := row.length) (by omega)]
    congr 1
    show D.lst _ = D.lst _
    have e : iN (List.replicate row.length 0) = List.replicate row.length 0 := by
      show List.map _ _ = _
      rw [List.map_replicate]
      rfl
    rw [e]
theorem lay_full (o row : List Nat) (n : Nat) (h1 : o.length = n) (h2 : row.length = n) (b : List Nat) : lay (o.take n) (row.take n) b = lay o row b := by
  rw [List.take_of_length_le (by omega), List.take_of_length_le (by omega)]
theorem unwoven_ok {row : List Nat} {d : Nat} (hL : row.length < 41) (hd : d < 13) (h0 : 0 < d) : Z.f_unwoven_bytes [tN row, .int (d : Nat)] = .ok (tN (unw row d)) := by
  rw [Z.e_unwoven_bytes]
  unfold unw
  have ho := ord_len hL hd h0
  have hlt := ord_lt hL hd h0
  have hp := places_ok Z hL hd h0
  generalize ord row.length d = o at *
  have zl : ((o.zip row).map fun q : Nat × Nat => D.tup [D.int (q.1 : Nat), D.int (q.2 : Nat)]).length = row.length := by rw [List.length_map, List.length_zip]; omega
  obtain ⟨ρ', hl, y3, y4, he⟩ := for_list (t := .tp [.nm 3, .nm 4]) (s := setPS 2 (.va 3) (varM 4)) (fun i ρ => ∃ y3 y4, ρ = [.val (tN row), .val (.int (d : Nat)), .own (lN (lay (o.take i) (row.take i) (List.replicate row.length 0))), y3, y4])
    ((o.zip row).map fun q : Nat × Nat => D.tup [D.int (q.1 : Nat), D.int (q.2 : Nat)]) 0 [.val (tN row), .val (.int (d : Nat)), .own (lN (List.replicate row.length 0)), .no, .no] ⟨.no, .no, rfl⟩ (by
      rintro i dd _ hi ⟨y3, y4, rfl⟩
      rw [Nat.zero_add]
      have hil : i < row.length := by rw [← zl]; exact (List.getElem?_eq_some_iff.mp hi).1
      have e1 : o[i]? = some (o.getD i 0) := by rw [List.getD_eq_getElem?_getD, List.getElem?_eq_getElem (show i < o.length by omega)]; rfl
      have e2 : row[i]? = some (row.getD i 0) := by rw [List.getD_eq_getElem?_getD, List.getElem?_eq_getElem hil]; rfl
      have e3 : (o.zip row)[i]? = some (o.getD i 0, row.getD i 0) := List.getElem?_zip_eq_some.mpr ⟨e1, e2⟩
      rw [List.getElem?_map, e3] at hi
      have hd' := Option.some.inj hi
      subst hd'
      have hin : o.getD i 0 < (lay (o.take i) (row.take i) (List.replicate row.length 0)).length := by
        rw [lay_len, List.length_replicate]
        exact hlt _ (List.mem_of_getElem? e1)
      refine ⟨_, [.val (tN row), .val (.int (d : Nat)), .own (lN (lay (o.take (i + 1)) (row.take (i + 1)) (List.replicate row.length 0))), .val (.int (o.getD i 0 : Nat)), .val (.int (row.getD i 0 : Nat))], rfl, .inl (set_lN rfl rfl rfl hin ?_), _, _, rfl⟩
      rw [lay_take o row _ i (by omega) hil]
      rfl)
  rw [zl, Nat.zero_add, lay_full o row row.length ho rfl] at he
  refine run_of (ρ := ρ') ?_
  refine (seq_nx (ρ' := [.val (tN row), .val (.int (d : Nat)), .own (lN (List.replicate row.length 0)), .no, .no]) (asg_to (zeros_ok row (by omega) _ rfl) rfl)).trans ?_
  have hm : callM Z.f_woven_places [.ex (opM (f1 lenD) [.va 0]), .va 1] [.val (tN row), .val (.int (d : Nat)), .own (lN (List.replicate row.length 0)), .no, .no] = .ok (lN o) [.val (tN row), .val (.int (d : Nat)), .own (lN (List.replicate row.length 0)), .no, .no] :=
    callM_ind [.int (row.length : Nat), .int (d : Nat)] (ev_cons (opM_of (ds := [tN row]) rfl (len_tN row)) rfl) (indep_lI _) hp
  have hz : zipD [lN o, tN row] = some ((o.zip row).map fun q : Nat × Nat => D.tup [D.int (q.1 : Nat), D.int (q.2 : Nat)]) := by
    rw [← lst_lN, show tN row = D.tup (row.map fun x : Nat => D.int (x : Nat)) from by show D.tup ((iN row).map D.int) = _; rw [List.map_map]; rfl]
    exact zip_ll o row _ _ D.lst D.tup (.inr rfl) (.inl rfl)
  refine (seq_nx ((forI (ds := [lN o, tN row]) (ev_cons hm rfl) hz).trans hl)).trans ?_
  rw [he]
  exact ret_fresh (opM_of (ds := [lN (lay o row (List.replicate row.length 0))]) rfl (tup_lN _))
theorem lunwoven_ok {row : List Nat} {d : Nat} (hL : row.length < 41) (hd : d < 13) (h0 : 0 < d) : Z.f_law_unwoven [tN row, .int (d : Nat)] = .ok (tN (unw row d)) := by
  rw [Z.e_law_unwoven]
  unfold unw
  have ho := ord_len hL hd h0
  have hlt := ord_lt hL hd h0
  have hp := order_ok Z hL hd h0
  generalize ord row.length d = o at *
  obtain ⟨ρ', hl, y4, he⟩ := for_range (v := 4) (lo := 0) (c := 1) (n := row.length) (s := (setPS 3 (.ex (opM (f2 ixD) [.va 2, .va 4])) (opM (f2 ixD) [.va 0, .va 4]))) (fun i ρ => ∃ y4, ρ = [.val (tN row), .val (.int (d : Nat)), .own (lN o), .own (lN (lay (o.take i) (row.take i) (List.replicate row.length 0))), y4])
    (ρ := [.val (tN row), .val (.int (d : Nat)), .own (lN o), .own (lN (List.replicate row.length 0)), .no]) ⟨.no, rfl⟩ (by
      rintro i _ hi ⟨y4, rfl⟩
      rw [show (0 : Int) + (i : Int) * 1 = (i : Int) by omega]
      have e1 : o[i]? = some (o.getD i 0) := by rw [List.getD_eq_getElem?_getD, List.getElem?_eq_getElem (show i < o.length by omega)]; rfl
      have hin : o.getD i 0 < (lay (o.take i) (row.take i) (List.replicate row.length 0)).length := by
        rw [lay_len, List.length_replicate]
        exact hlt _ (List.mem_of_getElem? e1)
      refine ⟨[.val (tN row), .val (.int (d : Nat)), .own (lN o), .own (lN (lay (o.take (i + 1)) (row.take (i + 1)) (List.replicate row.length 0))), .val (.int (i : Nat))], .inl (set_lN rfl (opM2_of (a := tN row) (b := .int (i : Nat)) rfl (ix_tN hi)) (ev_cons (opM2_of (a := lN o) (b := .int (i : Nat)) rfl (ix_lN (by omega))) rfl) hin ?_), _, rfl⟩
      rw [lay_take o row _ i (by omega) hi]
      rfl)
  rw [lay_full o row row.length ho rfl] at he
  refine run_of (ρ := ρ') ?_
  have hm : callM Z.f_law_order [.ex (opM (f1 lenD) [.va 0]), .va 1] [.val (tN row), .val (.int (d : Nat)), .no, .no, .no] = .ok (lN o) [.val (tN row), .val (.int (d : Nat)), .no, .no, .no] :=
    callM_ind [.int (row.length : Nat), .int (d : Nat)] (ev_cons (opM_of (ds := [tN row]) rfl (len_tN row)) rfl) (indep_lI _) hp
  refine (seq_nx (ρ' := [.val (tN row), .val (.int (d : Nat)), .own (lN o), .no, .no]) (asg_to hm rfl)).trans ?_
  refine (seq_nx (ρ' := [.val (tN row), .val (.int (d : Nat)), .own (lN o), .own (lN (List.replicate row.length 0)), .no]) (asg_to (zeros_ok row (by omega) _ rfl) rfl)).trans ?_
  refine (seq_nx ((forI (ds := [.int (row.length : Nat)]) (ev_cons (opM_of (ds := [tN row]) rfl (len_tN row)) rfl) (rng_nat (n := row.length) (by omega))).trans hl)).trans ?_
  rw [he]
  exact ret_fresh (opM_of (ds := [lN (lay o row (List.replicate row.length 0))]) rfl (tup_lN _))
/-! ### touched places -/
theorem sort_lI (l : List Int) : sortedD (lI l) = some (lI (sortI l)) := by
  unfold sortedD
  show (intsOf (l.map D.int)).map _ = _
  rw [intsOf_ints]
  rfl
def tch (L d a n : Nat) : List Int := sortI (iN (((ord L d).drop a).take n))
theorem touched_ok {L d a n : Nat} (hL : L < 41) (hd : d < 13) (h0 : 0 < d) : Z.f_touched_places [.int (L : Nat), .int (d : Nat), .int (a : Nat), .int (n : Nat)] = .ok (tI (tch L d a n)) := by
  rw [Z.e_touched_places]
  have hm : callM Z.f_woven_places [.va 0, .va 1] [.val (.int (L : Nat)), .val (.int (d : Nat)), .val (.int (a : Nat)), .val (.int (n : Nat))] = .ok (lN (ord L d)) [.val (.int (L : Nat)), .val (.int (d : Nat)), .val (.int (a : Nat)), .val (.int (n : Nat))] :=
    callM_ind [.int (L : Nat), .int (d : Nat)] rfl (indep_lI _) (places_ok Z hL hd h0)
  have hs := slB_of (oa := .ex (callM Z.f_woven_places [.va 0, .va 1])) (oc := .va 2) (oc2 := .ex (opM (f2 addD) [.va 2, .va 3])) (d := lN (ord L d)) (i := ((a : Nat) : Int)) (j := ((a + n : Nat) : Int)) (ρ := [.val (.int (L : Nat)), .val (.int (d : Nat)), .val (.int (a : Nat)), .val (.int (n : Nat))])
    (ev_cons hm rfl) (by rw [Int.natCast_add]; rfl) rfl (sl_lN _ (by omega))
  rw [show a + n - a = n by omega] at hs
  exact run_of (ret_fresh (opM_of (ev_cons (opM_of (ev_cons hs rfl) (sort_lI _)) rfl) (tup_l _)))
end
end K40
namespace K40
open PySem PyProof.Rows L2 Dv
/-! ### knots as the law counts them -/
theorem chain_and {oa ob oc : Opd} {ρ : En} {x y z : Int} (h1 : evO [oa, ob] ρ = .ok [.int x, .int y] ρ) (h2 : evO [oc] ρ = .ok [.int z] ρ) : boolM (chainM (cmpD .LtE) (cmpD .Lt) oa ob oc) ρ = .ok (decide (x ≤ y) && decide (y < z)) ρ := by
  unfold chainM
  rw [x_boolM, h1, R.bind_ok]
  simp only [x_cmpLe, x_cmpLt, x_leI]
  by_cases c : x ≤ y
  · simp only [c, decide_true, x_mutI, Bool.true_and]
    show R.bind (R.bind (evO [oc] ρ) _) _ = _
    rw [h2, R.bind_ok]
    simp only [x_ltI, R.bind_ok]
  · simp only [c, decide_false, Bool.false_and, R.bind_ok]
theorem gt0_ok {m : M D} {ρ : En} {c : Int} {b : Bool} (h : m ρ = .ok (.int c) ρ) (e : decide (0 < c) = b) : boolM (opM (f2 (cmpD .Gt)) [.ex m, .ex (retM (.int 0))]) ρ = .ok b ρ := by
  rw [x_boolM, x_cmpGt, opM2_of (f := gtD) (ev_cons h rfl) (x_gtI c 0), R.bind_ok, e]
abbrev prN (q : Nat × Nat) : D := .tup [.int (q.1 : Nat), .int (q.2 : Nat)]
def knD (l : List (Nat × Nat)) : D := .tup (l.map prN)
section
variable (Z : Pr)
def kcM : M Bool := (boolM (chainM (cmpD .LtE) (cmpD .Lt) (.ex (opM (f2 mulD) [.va 4, .ex (opM (f2 addD) [.va 1, .ex (retM (.int 2))])])) (.ex (opM (f2 ixD) [.va 0, .va 6])) (.ex (opM (f2 mulD) [.ex (opM (f2 addD) [.va 4, .ex (retM (.int 1))]), .ex (opM (f2 addD) [.va 1, .ex (retM (.int 2))])]))))
theorem kc_ok {o ps y3 y5 : D} {K W p x : Int} (hW : 0 ≤ W ∧ W < 100) (hx : ixD o (.int p) = some (.int x)) (s3 s5 : Sl) : kcM [.val o, .val (.int W), .val ps, s3, .val (.int K), s5, .val (.int p)] = .ok (decide (K * (W + 2) ≤ x) && decide (x < (K + 1) * (W + 2))) [.val o, .val (.int W), .val ps, s3, .val (.int K), s5, .val (.int p)] := by
  have m1 : Dv.MulOk K (W + 2) := mulOk_r (by omega)
  have m2 : Dv.MulOk (K + 1) (W + 2) := mulOk_r (by omega)
  refine chain_and ?_ ?_
  · generalize ixD = f at *
    simp only [x_seqS, x_nxS, x_bkS, x_ctS, x_retS, x_retNS, x_retV, x_ifS, x_asgS, x_slotOf, x_slotOf', x_opM, x_opI, x_ev0, x_ev1, x_ev2, x_sl1, x_sl2, x_retM, x_varM, x_f1, x_f2, x_boolM, x_truM, x_notM, x_andM, x_orM, x_iteM, x_tvM, x_lstM, x_tupM, x_forS, x_whileS, x_parS, x_par0, x_par1, x_appS, x_setS, x_setPS, x_dicM, x_callM, x_cmpEq, x_cmpNe, x_cmpLt, x_cmpLe, x_cmpGt, x_cmpGe, x_cmpIs, x_cmpIn, x_eqI, x_neI, x_ltI, x_leI, x_gtI, x_geI, x_isI, x_add, x_sub, x_mul, x_mod, x_div, x_xor, x_and, x_shr, x_neg, x_abs, x_int, x_isi, x_truB, x_mutI, x_mutB, x_mutL, x_mutT, x_indI, x_indB, x_len, x_lenT, x_lenS, x_andV, x_orV, x_extS, x_untS, x_augS, R.bind_ok, R.bind_exc, R.bind_bad, List.getElem?_cons_zero, List.getElem?_cons_succ, List.set_cons_zero, List.set_cons_succ, Option.map_some, if_true, if_false, decide_eq_true_eq, Bool.not_eq_true, decide_true, decide_false, Bool.false_eq_true, Bool.not_true, Bool.not_false, and_true, true_and, and_false, false_and, List.map_cons, List.map_nil, List.replicate_succ, List.replicate_zero, List.cons_append, List.nil_append, List.length_cons, List.length_nil, List.append_nil, reduceCtorEq, Nat.reduceSub, Nat.reduceAdd, hasOwn, List.any_cons, List.any_nil, Bool.or_false, Bool.or_true, Bool.true_or, Bool.false_or, List.isEmpty_nil, ite_self, eq_self, m1, m2, hx]
  · simp only [x_seqS, x_nxS, x_bkS, x_ctS, x_retS, x_retNS, x_retV, x_ifS, x_asgS, x_slotOf, x_slotOf', x_opM, x_opI, x_ev0, x_ev1, x_ev2, x_sl1, x_sl2, x_retM, x_varM, x_f1, x_f2, x_boolM, x_truM, x_notM, x_andM, x_orM, x_iteM, x_tvM, x_lstM, x_tupM, x_forS, x_whileS, x_parS, x_par0, x_par1, x_appS, x_setS, x_setPS, x_dicM, x_callM, x_cmpEq, x_cmpNe, x_cmpLt, x_cmpLe, x_cmpGt, x_cmpGe, x_cmpIs, x_cmpIn, x_eqI, x_neI, x_ltI, x_leI, x_gtI, x_geI, x_isI, x_add, x_sub, x_mul, x_mod, x_div, x_xor, x_and, x_shr, x_neg, x_abs, x_int, x_isi, x_truB, x_mutI, x_mutB, x_mutL, x_mutT, x_indI, x_indB, x_len, x_lenT, x_lenS, x_andV, x_orV, x_extS, x_untS, x_augS, R.bind_ok, R.bind_exc, R.bind_bad, List.getElem?_cons_zero, List.getElem?_cons_succ, List.set_cons_zero, List.set_cons_succ, Option.map_some, if_true, if_false, decide_eq_true_eq, Bool.not_eq_true, decide_true, decide_false, Bool.false_eq_true, Bool.not_true, Bool.not_false, and_true, true_and, and_false, false_and, List.map_cons, List.map_nil, List.replicate_succ, List.replicate_zero, List.cons_append, List.nil_append, List.length_cons, List.length_nil, List.append_nil, reduceCtorEq, Nat.reduceSub, Nat.reduceAdd, hasOwn, List.any_cons, List.any_nil, Bool.or_false, Bool.or_true, Bool.true_or, Bool.false_or, List.isEmpty_nil, ite_self, eq_self, m1, m2]
theorem kn_dec (k w x : Nat) : (decide ((k : Int) * ((w : Int) + 2) ≤ (x : Int)) && decide ((x : Int) < ((k : Int) + 1) * ((w : Int) + 2))) = decide (x / (w + 2) = k) := by
  have e1 : (k : Int) * ((w : Int) + 2) = ((k * (w + 2) : Nat) : Int) := by rw [Int.natCast_mul]; rfl
  have e2 : ((k : Int) + 1) * ((w : Int) + 2) = (((k + 1) * (w + 2) : Nat) : Int) := by rw [Int.natCast_mul]; rfl
  rw [e1, e2, ← Bool.decide_and, decide_eq_decide]
  constructor
  · rintro ⟨h1, h2⟩
    have h1' : k * (w + 2) ≤ x := by omega
    have h2' : x < (k + 1) * (w + 2) := by omega
    exact Nat.div_eq_of_lt_le h1' h2'
  · intro h
    have a := Nat.div_add_mod x (w + 2)
    have b := Nat.mod_lt x (show 0 < w + 2 by omega)
    rw [h, Nat.mul_comm] at a
    have c : (k + 1) * (w + 2) = k * (w + 2) + (w + 2) := Nat.succ_mul _ _
    generalize k * (w + 2) = A at *
    generalize (k + 1) * (w + 2) = B at *
    exact ⟨by omega, by omega⟩
def someM : M D := (compM (seqM (varM 2)) [6] (.nm 6) (boolM (chainM (cmpD .LtE) (cmpD .Lt) (.ex (opM (f2 mulD) [.va 4, .ex (opM (f2 addD) [.va 1, .ex (retM (.int 2))])])) (.ex (opM (f2 ixD) [.va 0, .va 6])) (.ex (opM (f2 mulD) [.ex (opM (f2 addD) [.va 4, .ex (retM (.int 1))]), .ex (opM (f2 addD) [.va 1, .ex (retM (.int 2))])])))) (varM 6))
theorem some_ok {o ps : List Nat} {w k : Nat} (hw : w < 100) (hp : ∀ p ∈ ps, p < o.length) (hl : ps.length ≤ 1000) (s3 s5 : Sl) : someM [.val (lN o), .val (.int (w : Nat)), .val (tN ps), s3, .val (.int (k : Nat)), s5, .no] = .ok (lN (ps.filter fun p => decide (o.getD p 0 / (w + 2) = k))) [.val (lN o), .val (.int (w : Nat)), .val (tN ps), s3, .val (.int (k : Nat)), s5, .no] := by
  have hz : seqD (tN ps) = some (ps.map fun x : Nat => D.int (x : Nat)) := by
    rw [seq_tN, List.map_map]
    rfl
  have q := compXG (own := [6]) (t := .nm 6) (elt := varM 6) (cond := kcM) (mi := seqM (varM 2)) ps (fun x : Nat => D.int (x : Nat)) (fun p => decide (o.getD p 0 / (w + 2) = k)) (fun x : Nat => D.int (x : Nat)) (ρ := [.val (lN o), .val (.int (w : Nat)), .val (tN ps), s3, .val (.int (k : Nat)), s5, .no]) (ρ1 := [.val (lN o), .val (.int (w : Nat)), .val (tN ps), s3, .val (.int (k : Nat)), s5, .no]) (ρw := [.val (lN o), .val (.int (w : Nat)), .val (tN ps), s3, .val (.int (k : Nat)), s5, .no])
    (seq_one rfl hz) (by omega) rfl rfl rfl fun a ha => ⟨[.val (lN o), .val (.int (w : Nat)), .val (tN ps), s3, .val (.int (k : Nat)), s5, .val (.int (a : Nat))], rfl, by
      rw [kc_ok (x := ((o.getD a 0 : Nat) : Int)) (y3 := .non) (y5 := .non) (by omega) (ix_lN (hp a ha)), kn_dec], fun _ => rfl, rfl⟩
  rw [lst_lN] at q
  exact q
def lkB : S := (seqS (asgS 5 (compM (seqM (varM 2)) [6] (.nm 6) (boolM (chainM (cmpD .LtE) (cmpD .Lt) (.ex (opM (f2 mulD) [.va 4, .ex (opM (f2 addD) [.va 1, .ex (retM (.int 2))])])) (.ex (opM (f2 ixD) [.va 0, .va 6])) (.ex (opM (f2 mulD) [.ex (opM (f2 addD) [.va 4, .ex (retM (.int 1))]), .ex (opM (f2 addD) [.va 1, .ex (retM (.int 2))])])))) (varM 6)) true) (ifS (boolM (opM (f2 (cmpD .Gt)) [.ex (opM (f1 lenD) [.va 5]), .ex (retM (.int 0))])) (appS 3 (tupM [(varM 4), (opM (f1 lenD) [.va 5])])) nxS))
theorem app_pr {j : Nat} {m : M D} {ρ ρ2 : En} {l : List (Nat × Nat)} {q : Nat × Nat} (h : ρ[j]? = some (.own (.lst (l.map prN)))) (hm : m ρ = .ok (prN q) ρ) (hl : l.length ≤ 1000) (h2 : ρ.set j (.own (.lst ((l ++ [q]).map prN))) = ρ2) : appS j m ρ = .ok .nx ρ2 := by
  rw [x_appS, h]
  show (m ρ).bind _ = _
  rw [hm, R.bind_ok, h]
  show (if (l.map prN).length ≤ 16000000 then R.ok Fl.nx (ρ.set j (.own (.lst (l.map prN ++ [prN q])))) else R.bad) = _
  rw [if_pos (by rw [List.length_map]; omega), ← h2, List.map_append]
  rfl
theorem lk_body {o ps : List Nat} {w k : Nat} (hw : w < 100) (hp : ∀ p ∈ ps, p < o.length) (hl : ps.length ≤ 1000) (hk : k ≤ 1000) (s5 : Sl) : ∃ y5,
    lkB [.val (lN o), .val (.int (w : Nat)), .val (tN ps), .own (.lst ((kns o (w + 2) k ps).map prN)), .val (.int (k : Nat)), s5, .no] = .ok .nx [.val (lN o), .val (.int (w : Nat)), .val (tN ps), .own (.lst ((kns o (w + 2) (k + 1) ps).map prN)), .val (.int (k : Nat)), y5, .no] := by
  have h1 := kns_len o (w + 2) k ps
  rw [kns_succ]
  have e1 : (ps.filter fun p => decide (o.getD p 0 / (w + 2) = k)).length = knt o (w + 2) ps k := rfl
  have hs := some_ok (k := k) hw hp hl (.own (.lst ((kns o (w + 2) k ps).map prN))) s5
  generalize ps.filter (fun p => decide (o.getD p 0 / (w + 2) = k)) = F at *
  have hln := len_lN F
  rw [e1] at hln
  generalize knt o (w + 2) ps k = c at *
  generalize kns o (w + 2) k ps = l at *
  refine ⟨.own (lN F), (seq_nx (asg_to hs rfl)).trans ?_⟩
  have hlen : opM (f1 lenD) [.va 5] [.val (lN o), .val (.int (w : Nat)), .val (tN ps), .own (.lst (l.map prN)), .val (.int (k : Nat)), .own (lN F), .no] = .ok (.int (c : Nat)) [.val (lN o), .val (.int (w : Nat)), .val (tN ps), .own (.lst (l.map prN)), .val (.int (k : Nat)), .own (lN F), .no] := opM_of (ds := [lN F]) rfl hln
  by_cases h0 : 0 < c
  · rw [if_pos h0]
    refine (ifS_true ?_).trans (app_pr (q := (k, c)) rfl (tup_okM (ev_cons rfl (ev_cons hlen rfl))) (by omega) rfl)
    exact gt0_ok hlen (decide_eq_true (show (0 : Int) < (c : Int) by omega))
  · rw [if_neg h0]
    refine (ifS_false ?_).trans rfl
    exact gt0_ok hlen (decide_eq_false (show ¬ (0 : Int) < (c : Int) by omega))
theorem lknots_ok {o ps : List Nat} {w : Nat} (hw : w < 100) (ho : o.length ≤ 1000) (hp : ∀ p ∈ ps, p < o.length) (hl : ps.length ≤ 1000) : Z.f_law_knots [lN o, .int (w : Nat), tN ps] = .ok (knD (kns o (w + 2) o.length ps)) := by
  rw [Z.e_law_knots]
  obtain ⟨ρ', hl', y4, y5, he⟩ := for_range (v := 4) (lo := 0) (c := 1) (n := o.length) (s := lkB) (ρ := [.val (lN o), .val (.int (w : Nat)), .val (tN ps), .own (.lst []), .no, .no, .no])
    (fun i ρ => ∃ y4 y5, ρ = [.val (lN o), .val (.int (w : Nat)), .val (tN ps), .own (.lst ((kns o (w + 2) i ps).map prN)), y4, y5, .no]) ⟨.no, .no, rfl⟩ (by
      rintro i _ hi ⟨y4, y5, rfl⟩
      rw [show (0 : Int) + (i : Int) * 1 = (i : Int) by omega]
      obtain ⟨z5, h⟩ := lk_body (k := i) hw hp hl (by omega) y5
      exact ⟨_, .inl h, _, z5, rfl⟩)
  refine run_of (ρ := ρ') ?_
  refine (seq_nx (ρ' := [.val (lN o), .val (.int (w : Nat)), .val (tN ps), .own (.lst []), .no, .no, .no]) rfl).trans ?_
  refine (seq_nx ((forI (ds := [.int (o.length : Nat)]) (ev_cons (opM_of (ds := [lN o]) rfl (len_lN o)) rfl) (rng_nat (n := o.length) (by omega))).trans hl')).trans ?_
  rw [he]
  exact ret_fresh (opM_of (ds := [.lst ((kns o (w + 2) o.length ps).map prN)]) rfl (tup_l _))
/-! ### the dict -/
def dcD (ks : List Nat) (f : Nat → Nat) : D := .dic (ks.map fun k : Nat => (Sum.inl (k : Int) : L2.Key)) (ks.map fun k => D.int (f k : Nat))
theorem key_eq (a b : Nat) : ((Sum.inl (a : Int) : L2.Key) = Sum.inl (b : Int)) ↔ a = b := by
  constructor
  · intro h
    have := Sum.inl.inj h
    omega
  · rintro rfl
    rfl
theorem dget_dc (f : Nat → Nat) (k : Nat) : ∀ ks : List Nat, dget (ks.map fun k : Nat => (Sum.inl (k : Int) : L2.Key)) (ks.map fun k => D.int (f k : Nat)) (.inl (k : Int)) = if k ∈ ks then some (D.int (f k : Nat)) else none
  | [] => rfl
  | j :: ks => by
    show (if (Sum.inl (j : Int) : L2.Key) = Sum.inl (k : Int) then some (D.int (f j : Nat)) else dget _ _ _) = _
    by_cases c : j = k
    · subst c
      rw [if_pos rfl, if_pos (List.mem_cons_self ..)]
    · rw [if_neg (fun z => c ((key_eq j k).mp z)), dget_dc f k ks]
      by_cases d : k ∈ ks
      · rw [if_pos d, if_pos (List.mem_cons_of_mem _ d)]
      · rw [if_neg d, if_neg (by simp [d]; exact fun z => c z.symm)]
theorem any_dc (k : Nat) (ks : List Nat) : ((ks.map fun k : Nat => (Sum.inl (k : Int) : L2.Key)).any fun j => decide (j = Sum.inl (k : Int))) = decide (k ∈ ks) := by
  rw [Bool.eq_iff_iff, List.any_eq_true, decide_eq_true_eq]
  constructor
  · rintro ⟨j, hj, e⟩
    obtain ⟨i, hi, rfl⟩ := List.mem_map.mp hj
    have := (key_eq i k).mp (of_decide_eq_true e)
    rw [← this]
    exact hi
  · intro h
    exact ⟨_, List.mem_map.mpr ⟨k, h, rfl⟩, decide_eq_true rfl⟩
theorem zip_dc (f : Nat → Nat) (k v : Nat) : ∀ ks : List Nat, List.zipWith (fun (j : L2.Key) (e : D) => if j = Sum.inl (k : Int) then D.int (v : Nat) else e) (ks.map fun k : Nat => (Sum.inl (k : Int) : L2.Key)) (ks.map fun k => D.int (f k : Nat)) = ks.map fun j => D.int ((if j = k then v else f j : Nat) : Nat)
  | [] => rfl
  | j :: ks => by
    rw [List.map_cons, List.map_cons, List.zipWith_cons_cons, zip_dc f k v ks, List.map_cons]
    congr 1
    by_cases c : j = k
    · rw [if_pos ((key_eq j k).mpr c), if_pos c]
    · rw [if_neg (fun z => c ((key_eq j k).mp z)), if_neg c]
theorem dput_old (f : Nat → Nat) {k v : Nat} {ks : List Nat} (h : k ∈ ks) : D.dic (dput (ks.map fun k : Nat => (Sum.inl (k : Int) : L2.Key)) (ks.map fun k => D.int (f k : Nat)) (.inl (k : Int)) (.int (v : Nat))).1 (dput (ks.map fun k : Nat => (Sum.inl (k : Int) : L2.Key)) (ks.map fun k => D.int (f k : Nat)) (.inl (k : Int)) (.int (v : Nat))).2 = dcD ks fun j => if j = k then v else f j := by
  unfold dput
  rw [any_dc, decide_eq_true h, if_pos rfl, zip_dc]
  rfl
theorem dput_new (f : Nat → Nat) {k v : Nat} {ks : List Nat} (h : k ∉ ks) : D.dic (dput (ks.map fun k : Nat => (Sum.inl (k : Int) : L2.Key)) (ks.map fun k => D.int (f k : Nat)) (.inl (k : Int)) (.int (v : Nat))).1 (dput (ks.map fun k : Nat => (Sum.inl (k : Int) : L2.Key)) (ks.map fun k => D.int (f k : Nat)) (.inl (k : Int)) (.int (v : Nat))).2 = dcD (ks ++ [k]) fun j => if j = k then v else f j := by
  unfold dput
  rw [any_dc, decide_eq_false h, if_neg (by decide)]
  unfold dcD
  rw [List.map_append, List.map_append]
  have e : (ks.map fun j => D.int ((if j = k then v else f j : Nat) : Nat)) = ks.map fun j => D.int (f j : Nat) := List.map_congr_left fun j hj => by
    have ne : j ≠ k := fun z => h (by rw [← z]; exact hj)
    rw [if_neg ne]
  rw [e]
  show D.dic (_ ++ [_]) (_ ++ [_]) = D.dic (_ ++ [_]) (_ ++ [D.int ((if k = k then v else f k : Nat) : Nat)])
  rw [if_pos rfl]
theorem put_dc {j : Nat} {oi : Opd} {m : M D} {ρ ρ2 : En} {ks ks2 : List Nat} {f f2 : Nat → Nat} {k v : Nat} (h : ρ[j]? = some (.own (dcD ks f))) (hm : m ρ = .ok (.int (v : Nat)) ρ) (ho : evO [oi] ρ = .ok [.int (k : Nat)] ρ) (hl : ks.length ≤ 1000)
    (hf : D.dic (dput (ks.map fun k : Nat => (Sum.inl (k : Int) : L2.Key)) (ks.map fun k => D.int (f k : Nat)) (.inl (k : Int)) (.int (v : Nat))).1 (dput (ks.map fun k : Nat => (Sum.inl (k : Int) : L2.Key)) (ks.map fun k => D.int (f k : Nat)) (.inl (k : Int)) (.int (v : Nat))).2 = dcD ks2 f2)
    (h2 : ρ.set j (.own (dcD ks2 f2)) = ρ2) : setPS j oi m ρ = .ok .nx ρ2 := by
  rw [x_setPS, h]
  show putS j oi m ρ = _
  unfold putS
  rw [hm, R.bind_ok, h]
  show (evO [oi] ρ).bind _ = _
  rw [ho, R.bind_ok, h]
  show (if (ks.map fun k : Nat => (Sum.inl (k : Int) : L2.Key)).length < 16000000 then R.ok Fl.nx (ρ.set j (.own (.dic _ _))) else R.bad) = _
  rw [if_pos (by rw [List.length_map]; omega), hf, h2]
theorem get_dc {j i : Nat} {ρ : En} {ks : List Nat} {f : Nat → Nat} {k : Nat} (h : ρ[j]? = some (.own (dcD ks f))) (hm : ρ[i]? = some (.val (.int (k : Nat)))) : getM j (varM i) (retM (.int 0)) ρ = .ok (.int ((if k ∈ ks then f k else 0 : Nat) : Nat)) ρ := by
  have hv : varM i ρ = .ok (.int (k : Nat)) ρ := by
    rw [x_varM, hm]
  unfold getM
  rw [h]
  show (varM i ρ).bind _ = _
  rw [hv, R.bind_ok, x_retM, R.bind_ok, h]
  show (match dget (ks.map fun k : Nat => (Sum.inl (k : Int) : L2.Key)) (ks.map fun k => D.int (f k : Nat)) (.inl (k : Int)) with
      | some d => R.ok d ρ
      | none => R.ok (D.int 0) ρ) = _
  rw [dget_dc]
  by_cases c : k ∈ ks
  · rw [if_pos c, if_pos c]
  · rw [if_neg c, if_neg c]
    rfl
end
end K40
namespace K40
open PySem PyProof.Rows L2 Dv
section
variable (Z : Pr)
/-! ### knots as the program counts them -/
def tkB : S := (seqS (asgS 6 (opM (f2 fdivD) [.ex (opM (f2 ixD) [.va 3, .va 5]), .ex (opM (f2 addD) [.va 1, .ex (retM (.int 2))])]) true) (setPS 4 (.va 6) (opM (f2 addD) [.ex (getM 4 (varM 6) (retM (.int 0))), .ex (retM (.int 1))])))
theorem quot_ok {t ps d4 : D} {W p x : Int} (hW : 0 ≤ W ∧ W < 100) (hx : ixD t (.int p) = some (.int x)) (s0 s4 s6 : Sl) : (opM (f2 fdivD) [.ex (opM (f2 ixD) [.va 3, .va 5]), .ex (opM (f2 addD) [.va 1, .ex (retM (.int 2))])]) [s0, .val (.int W), .val ps, .own t, s4, .val (.int p), s6] = .ok (.int (x / (W + 2))) [s0, .val (.int W), .val ps, .own t, s4, .val (.int p), s6] := by
  have c : CDiv x (W + 2) := cdiv_ok (by omega)
  generalize ixD = f at *
  simp only [x_seqS, x_nxS, x_bkS, x_ctS, x_retS, x_retNS, x_retV, x_ifS, x_asgS, x_slotOf, x_slotOf', x_opM, x_opI, x_ev0, x_ev1, x_ev2, x_sl1, x_sl2, x_retM, x_varM, x_f1, x_f2, x_boolM, x_truM, x_notM, x_andM, x_orM, x_iteM, x_tvM, x_lstM, x_tupM, x_forS, x_whileS, x_parS, x_par0, x_par1, x_appS, x_setS, x_setPS, x_dicM, x_callM, x_cmpEq, x_cmpNe, x_cmpLt, x_cmpLe, x_cmpGt, x_cmpGe, x_cmpIs, x_cmpIn, x_eqI, x_neI, x_ltI, x_leI, x_gtI, x_geI, x_isI, x_add, x_sub, x_mul, x_mod, x_div, x_xor, x_and, x_shr, x_neg, x_abs, x_int, x_isi, x_truB, x_mutI, x_mutB, x_mutL, x_mutT, x_indI, x_indB, x_len, x_lenT, x_lenS, x_andV, x_orV, x_extS, x_untS, x_augS, R.bind_ok, R.bind_exc, R.bind_bad, List.getElem?_cons_zero, List.getElem?_cons_succ, List.set_cons_zero, List.set_cons_succ, Option.map_some, if_true, if_false, decide_eq_true_eq, Bool.not_eq_true, decide_true, decide_false, Bool.false_eq_true, Bool.not_true, Bool.not_false, and_true, true_and, and_false, false_and, List.map_cons, List.map_nil, List.replicate_succ, List.replicate_zero, List.cons_append, List.nil_append, List.length_cons, List.length_nil, List.append_nil, reduceCtorEq, Nat.reduceSub, Nat.reduceAdd, hasOwn, List.any_cons, List.any_nil, Bool.or_false, Bool.or_true, Bool.true_or, Bool.false_or, List.isEmpty_nil, ite_self, eq_self, c, hx]
theorem dc_congr {ks : List Nat} {f g : Nat → Nat} (h : ∀ k ∈ ks, f k = g k) : dcD ks f = dcD ks g := by
  unfold dcD
  congr 1
  exact List.map_congr_left fun k hk => by rw [h k hk]
theorem nodup_le {ks : List Nat} (h : ks.Nodup) (n : Nat) (hn : ∀ k ∈ ks, k < n) : ks.length ≤ n := by
  have e : ks.Perm ((List.range n).filter fun k => decide (k ∈ ks)) := by
    rw [List.perm_ext_iff_of_nodup h (List.nodup_range.filter _)]
    intro k
    rw [List.mem_filter, List.mem_range, decide_eq_true_eq]
    exact ⟨fun hk => ⟨hn k hk, hk⟩, fun hk => hk.2⟩
  rw [e.length_eq]
  exact Nat.le_trans (List.length_filter_le _ _) (by simp)
theorem tk_step {o ps ks : List Nat} {w p : Nat} (hw : w < 100) (hp : p < o.length) (ho : ∀ x ∈ o, x < o.length) (hl : o.length ≤ 1000) (g : Grown o (w + 2) ps ks) (d : D) (s0 s6 : Sl) : ∃ ks' y6, Grown o (w + 2) (ps ++ [p]) ks' ∧
    tkB [s0, .val (.int (w : Nat)), .val d, .own (lN o), .own (dcD ks (knt o (w + 2) ps)), .val (.int (p : Nat)), s6] = .ok .nx [s0, .val (.int (w : Nat)), .val d, .own (lN o), .own (dcD ks' (knt o (w + 2) (ps ++ [p]))), .val (.int (p : Nat)), y6] := by
  have hq := quot_ok (t := lN o) (ps := d) (d4 := .non) (W := ((w : Nat) : Int)) (p := ((p : Nat) : Int)) (x := ((o.getD p 0 : Nat) : Int)) (by omega) (ix_lN hp) s0 (.own (dcD ks (knt o (w + 2) ps))) s6
  have hsn := knt_snoc o (w + 2) ps p
  obtain ⟨k, hk⟩ : ∃ k, k = o.getD p 0 / (w + 2) := ⟨_, rfl⟩
  have eq : ((o.getD p 0 : Nat) : Int) / ((w : Int) + 2) = ((k : Nat) : Int) := by rw [hk, Int.natCast_ediv]; rfl
  rw [eq] at hq
  have hkl : ks.length ≤ 1000 := Nat.le_trans (nodup_le g.nd o.length fun j hj => by
    obtain ⟨p', _, e⟩ := knt_pos ((g.mem j).mp hj)
    rw [← e]
    have : o.getD p' 0 < o.length ∨ o.getD p' 0 = 0 := by
      rw [List.getD_eq_getElem?_getD]
      cases e2 : o[p']? with
      | none => exact .inr rfl
      | some x => exact .inl (ho x (List.mem_of_getElem? e2))
    have := Nat.div_le_self (o.getD p' 0) (w + 2)
    have : 0 < o.length := by omega
    omega) hl
  have hgo := fun (h : k ∈ ks) => grown_old (p := p) g (hk ▸ h)
  have hgn := fun (h : k ∉ ks) => grown_new (p := p) g (hk ▸ h)
  rw [← hk] at hgn
  simp only [← hk] at hsn
  have hzero : k ∉ ks → knt o (w + 2) ps k = 0 := fun h => by
    rcases Nat.eq_zero_or_pos (knt o (w + 2) ps k) with e | e
    · exact e
    · exact absurd ((g.mem k).mpr e) h
  have hget : (if k ∈ ks then knt o (w + 2) ps k else 0) = knt o (w + 2) ps k := by
    by_cases c : k ∈ ks
    · rw [if_pos c]
    · rw [if_neg c, hzero c]
  have hm : opM (f2 addD) [.ex (getM 4 (varM 6) (retM (.int 0))), .ex (retM (.int 1))] [s0, .val (.int (w : Nat)), .val d, .own (lN o), .own (dcD ks (knt o (w + 2) ps)), .val (.int (p : Nat)), .val (.int (k : Nat))] = .ok (.int (knt o (w + 2) ps k + 1 : Nat)) [s0, .val (.int (w : Nat)), .val d, .own (lN o), .own (dcD ks (knt o (w + 2) ps)), .val (.int (p : Nat)), .val (.int (k : Nat))] := by
    refine opM2_of (a := .int (knt o (w + 2) ps k : Nat)) (b := .int 1) (ev_cons ?_ rfl) ?_
    · rw [get_dc (ks := ks) (f := knt o (w + 2) ps) (k := k) rfl rfl, hget]
    · rw [x_add, Int.natCast_add]
      rfl
  have hcg : ∀ ks : List Nat, dcD ks (fun j => if j = k then knt o (w + 2) ps k + 1 else knt o (w + 2) ps j) = dcD ks (knt o (w + 2) (ps ++ [p])) := fun ks => dc_congr fun j hj => by
    rw [hsn]
    by_cases e : j = k
    · rw [if_pos e, if_pos e.symm, e]
    · rw [if_neg e, if_neg (fun z => e z.symm)]
      rfl
  by_cases c : k ∈ ks
  · exact ⟨ks, .val (.int (k : Nat)), hgo c, (seq_nx (asg_to hq rfl)).trans (put_dc rfl hm rfl hkl ((dput_old (knt o (w + 2) ps) (v := knt o (w + 2) ps k + 1) c).trans (hcg ks)) rfl)⟩
  · exact ⟨ks ++ [k], .val (.int (k : Nat)), hgn c, (seq_nx (asg_to hq rfl)).trans (put_dc rfl hm rfl hkl ((dput_new (knt o (w + 2) ps) (v := knt o (w + 2) ps k + 1) c).trans (hcg _)) rfl)⟩
theorem pairs_dc (f : Nat → Nat) : ∀ ks : List Nat, pairsK (ks.map fun k : Nat => (Sum.inl (k : Int) : L2.Key)) (ks.map fun k => D.int (f k : Nat)) = some (ks.map fun k : Nat => ((k : Int), (f k : Int)))
  | [] => rfl
  | k :: ks => by
    show (pairsK _ _).map _ = _
    rw [pairs_dc f ks]
    rfl
def prI (q : Nat × Nat) : Int × Int := ((q.1 : Int), (q.2 : Int))
theorem kns_pw (o : List Nat) (s : Nat) (ps : List Nat) : ∀ n, ((kns o s n ps).map prI).Pairwise lexLe
  | 0 => List.Pairwise.nil
  | n + 1 => by
    rw [kns_succ]
    split
    · rw [List.map_append, List.pairwise_append]
      refine ⟨kns_pw o s ps n, List.pairwise_singleton _ _, fun a ha b hb => ?_⟩
      obtain ⟨q, hq, rfl⟩ := List.mem_map.mp ha
      have hb' := List.mem_singleton.mp hb
      subst hb'
      have := (kns_mem hq).1
      left
      show (q.1 : Int) < (n : Int)
      omega
    · exact kns_pw o s ps n
theorem sit_dc {i : Nat} {ρ : En} {o ps ks : List Nat} {s n : Nat} (h : ρ[i]? = some (.own (dcD ks (knt o s ps)))) (g : Grown o s ps ks) (hn : ∀ p ∈ ps, o.getD p 0 / s < n) : sitM i ρ = .ok (.lst ((kns o s n ps).map prN)) ρ := by
  unfold sitM
  rw [h]
  show (match pairsK (ks.map fun k : Nat => (Sum.inl (k : Int) : L2.Key)) (ks.map fun k => D.int (knt o s ps k : Nat)) with
    | some ps => R.ok (D.lst ((sortP ps).map prD)) ρ
    | none => R.bad) = _
  rw [pairs_dc]
  have e : sortP (ks.map fun k : Nat => ((k : Int), (knt o s ps k : Int))) = (kns o s n ps).map prI := by
    refine lex_uniq ((sortP_perm _).trans ?_) (sortP_pw _) (kns_pw o s ps n)
    have := (grown_perm g hn).map prI
    rw [List.map_map] at this
    exact this
  show R.ok (D.lst ((sortP _).map prD)) ρ = _
  rw [e, List.map_map]
  rfl
theorem tknots_ok {L w : Nat} {ps : List Nat} (hL : L < 41) (hw : w < 11) (hp : ∀ p ∈ ps, p < L) (hl : ps.length ≤ 1000) : Z.f_touched_knots [.int (L : Nat), .int (w : Nat), tN ps] = .ok (knD (kns (ord L (w + 2)) (w + 2) L ps)) := by
  rw [Z.e_touched_knots]
  have hpo := places_ok Z hL (show w + 2 < 13 by omega) (by omega)
  have ho := ord_len hL (show w + 2 < 13 by omega) (by omega)
  have hlt := ord_lt hL (show w + 2 < 13 by omega) (by omega)
  generalize ord L (w + 2) = o at *
  have hm : callM Z.f_woven_places [.va 0, .ex (opM (f2 addD) [.va 1, .ex (retM (.int 2))])] [.val (.int (L : Nat)), .val (.int (w : Nat)), .val (tN ps), .no, .no, .no, .no] = .ok (lN o) [.val (.int (L : Nat)), .val (.int (w : Nat)), .val (tN ps), .no, .no, .no, .no] :=
    callM_ind [.int (L : Nat), .int ((w + 2 : Nat) : Int)] (by rw [Int.natCast_add]; rfl) (indep_lI _) hpo
  obtain ⟨ρ', hl', ks, y5, y6, hg, he⟩ := for_list (t := .nm 5) (s := tkB) (fun i ρ => ∃ ks y5 y6, Grown o (w + 2) (ps.take i) ks ∧ ρ = [.val (.int (L : Nat)), .val (.int (w : Nat)), .val (tN ps), .own (lN o), .own (dcD ks (knt o (w + 2) (ps.take i))), y5, y6])
    (ps.map fun x : Nat => D.int (x : Nat)) 0 [.val (.int (L : Nat)), .val (.int (w : Nat)), .val (tN ps), .own (lN o), .own (dcD [] (knt o (w + 2) [])), .no, .no] ⟨[], .no, .no, grown_nil _ _, rfl⟩ (by
      rintro i dd _ hi ⟨ks, y5, y6, hg, rfl⟩
      rw [Nat.zero_add] at hg ⊢
      rw [List.getElem?_map] at hi
      cases e1 : ps[i]? with
      | none => rw [e1] at hi; cases hi
      | some p =>
        rw [e1] at hi
        cases hi
        have hpl := hp p (List.mem_of_getElem? e1)
        obtain ⟨ks', z6, g', h⟩ := tk_step (d := tN ps) (p := p) (by omega) (by omega) (fun x hx => by rw [ho]; exact hlt x hx) (by omega) hg (.val (.int (L : Nat))) y6
        have e2 : ps.take (i + 1) = ps.take i ++ [p] := by rw [List.take_add_one, e1]; rfl
        rw [← e2] at g' h
        exact ⟨_, _, rfl, .inl h, ks', .val (.int (p : Nat)), z6, g', rfl⟩)
  rw [List.length_map, Nat.zero_add, List.take_length] at hg he
  refine run_of (ρ := ρ') ?_
  refine (seq_nx (ρ' := [.val (.int (L : Nat)), .val (.int (w : Nat)), .val (tN ps), .own (lN o), .no, .no, .no]) (asg_to hm rfl)).trans ?_
  refine (seq_nx (ρ' := [.val (.int (L : Nat)), .val (.int (w : Nat)), .val (tN ps), .own (lN o), .own (dcD [] (knt o (w + 2) [])), .no, .no]) rfl).trans ?_
  refine (seq_for (d := tN ps) (zs := ps.map fun x : Nat => D.int (x : Nat)) rfl (by rw [seq_tN, List.map_map]; rfl) hl').trans ?_
  rw [he]
  refine ret_fresh (opM_of (ev_cons (sit_dc (i := 4) (n := L) rfl hg fun p hpp => ?_) rfl) (tup_l _))
  have h1 := Nat.div_le_self (o.getD p 0) (w + 2)
  have h2 : o.getD p 0 < L := by
    have := hp p hpp
    rw [List.getD_eq_getElem?_getD, List.getElem?_eq_getElem (show p < o.length by omega)]
    exact hlt _ (List.getElem_mem _)
  omega
/-! ### what is sure -/
theorem snds_kn : ∀ l : List (Nat × Nat), sndsOf (l.map prN) = some (l.map fun q => D.int (q.2 : Nat))
  | [] => rfl
  | q :: l => by
    show (sndsOf (l.map prN)).map _ = _
    rw [snds_kn l]
    rfl
theorem bools_kn (ρ : En) : ∀ l : List (Nat × Nat), boolsOf (q2 qLt qIt (qCo 2)) ρ (l.map fun q => D.int (q.2 : Nat)) = some (l.map fun q => decide (q.2 < 2))
  | [] => rfl
  | q :: l => by
    have e : q2 qLt qIt (qCo 2) (D.int (q.2 : Nat)) ρ = some (.bl (decide (q.2 < 2))) := by
      show some (D.bl (decide (((q.2 : Nat) : Int) < 2))) = _
      congr 2
      rw [decide_eq_decide]
      omega
    rw [List.map_cons]
    unfold boolsOf
    rw [e, bools_kn ρ l]
    rfl
def sureB (l : List (Nat × Nat)) : Bool := l.all fun q => decide (q.2 < 2)
theorem ind_kn (l : List (Nat × Nat)) : indep (knD l) = true := by
  have : ∀ l : List (Nat × Nat), pureAll? (l.map prN) = true := fun l => by
    induction l with
    | nil => rfl
    | cons q l ih =>
      show (pure? (prN q) && pureAll? (l.map prN)) = true
      rw [ih]
      rfl
  exact this l
theorem sure_ok {L w : Nat} {ps : List Nat} (hL : L < 41) (hw : w < 11) (hp : ∀ p ∈ ps, p < L) (hl : ps.length ≤ 1000) : Z.f_is_sure_damage [.int (L : Nat), .int (w : Nat), tN ps] = .ok (.bl (sureB (kns (ord L (w + 2)) (w + 2) L ps))) := by
  rw [Z.e_is_sure_damage]
  have hk := tknots_ok Z hL hw hp hl
  generalize kns (ord L (w + 2)) (w + 2) L ps = l at *
  have hm : callM Z.f_touched_knots [.va 0, .va 1, .va 2] [.val (.int (L : Nat)), .val (.int (w : Nat)), .val (tN ps)] = .ok (knD l) [.val (.int (L : Nat)), .val (.int (w : Nat)), .val (tN ps)] := callM_ind [.int (L : Nat), .int (w : Nat), tN ps] rfl (ind_kn l) hk
  refine run_of (ret_fresh (d := .bl (sureB l)) (ρ' := [.val (.int (L : Nat)), .val (.int (w : Nat)), .val (tN ps)]) ?_)
  refine Eq.trans (show genP _ _ _ [.val (.int (L : Nat)), .val (.int (w : Nat)), .val (tN ps)] = _ from ?_) rfl
  unfold genP
  rw [hm, R.bind_ok]
  show (match sndsOf (l.map prN) with
    | some ys => (match boolsOf (q2 qLt qIt (qCo 2)) [.val (.int (L : Nat)), .val (.int (w : Nat)), .val (tN ps)] ys with
      | some bs => R.ok (D.bl (allB bs)) [.val (.int (L : Nat)), .val (.int (w : Nat)), .val (tN ps)]
      | none => R.bad)
    | none => R.bad) = _
  rw [snds_kn]
  show (match boolsOf (q2 qLt qIt (qCo 2)) _ (l.map fun q => D.int (q.2 : Nat)) with
      | some bs => R.ok (D.bl (allB bs)) _
      | none => R.bad) = _
  rw [bools_kn]
  show R.ok (D.bl ((l.map fun q => decide (q.2 < 2)).all id)) _ = _
  rw [List.all_map]
  rfl
/-! ### equal ones -/
theorem isint (d : D) : Z.f_law_is_integer [d] = .ok (.bl (isiB "int" d && !isiB "bool" d)) := by rw [Z.e_law_is_integer]; exact isint_ok d
theorem is2 (i : Int) : Z.f_law_is_2 [.int i, .int i] = .ok (.bl true) := by
  rw [Z.e_law_is_2]
  have q := is_int (g := Z.f_law_is_1) (h := Z.f_law_is_integer) (isint Z) i i
  rw [decide_eq_true rfl] at q
  exact q
theorem is3i (i : Int) : Z.f_law_is_3 [.int i, .int i] = .ok (.bl true) := by
  rw [Z.e_law_is_3]
  have q := is_int (g := Z.f_law_is_2) (h := Z.f_law_is_integer) (isint Z) i i
  rw [decide_eq_true rfl] at q
  exact q
theorem is3p (q : Nat × Nat) : Z.f_law_is_3 [prN q, prN q] = .ok (.bl true) := by
  rw [Z.e_law_is_3]
  refine is_tup_self (by show 2 ≤ _; decide) fun a ha => ?_
  rcases List.mem_cons.mp ha with rfl | ha
  · exact is2 Z _
  · have := List.mem_singleton.mp ha
    subst this
    exact is2 Z _
theorem is4i (l : List Int) (hl : l.length ≤ 1000) : Z.f_law_is [tI l, tI l] = .ok (.bl true) := by
  rw [Z.e_law_is]
  refine is_tup_self (by rw [List.length_map]; omega) fun a ha => ?_
  obtain ⟨i, _, rfl⟩ := List.mem_map.mp ha
  exact is3i Z i
theorem is4n (l : List Nat) (hl : l.length ≤ 1000) : Z.f_law_is [tN l, tN l] = .ok (.bl true) := is4i Z (iN l) (by rw [List.length_map]; exact hl)
theorem is4k (l : List (Nat × Nat)) (hl : l.length ≤ 1000) : Z.f_law_is [knD l, knD l] = .ok (.bl true) := by
  rw [Z.e_law_is]
  refine is_tup_self (by rw [List.length_map]; omega) fun a ha => ?_
  obtain ⟨i, _, rfl⟩ := List.mem_map.mp ha
  exact is3p Z i
theorem is4b (i : Bool) : Z.f_law_is [.bl i, .bl i] = .ok (.bl true) := by
  rw [Z.e_law_is]
  have q := is_bool (g := Z.f_law_is_3) (h := Z.f_law_is_integer) i i
  rw [decide_eq_true rfl] at q
  exact q
/-! ### what the law asks of places -/
def twoM : M D := (compM (seqM (varM 3)) [5] (.nm 5) (boolM (opM (f2 (cmpD .Gt)) [.ex (opM (f2 ixD) [.va 5, .ex (retM (.int 1))]), .ex (retM (.int 1))])) (varM 5))
theorem two_ok (l : List (Nat × Nat)) (hl : l.length ≤ 1000) (x0 x1 x2 x4 : Sl) : twoM [x0, x1, x2, .val (knD l), x4, .no] = .ok (.lst ((l.filter fun q => decide (1 < q.2)).map prN)) [x0, x1, x2, .val (knD l), x4, .no] := by
  refine compXG (own := [5]) (t := .nm 5) (elt := varM 5) (mi := seqM (varM 3)) l prN (fun q => decide (1 < q.2)) prN (seq_one rfl (seq_t _)) (by omega) rfl rfl rfl fun q _ => ⟨[x0, x1, x2, .val (knD l), x4, .val (prN q)], rfl, ?_, fun _ => rfl, rfl⟩
  have h : opM (f2 ixD) [.va 5, .ex (retM (.int 1))] [x0, x1, x2, .val (knD l), x4, .val (prN q)] = .ok (.int (q.2 : Nat)) [x0, x1, x2, .val (knD l), x4, .val (prN q)] := opM2_of (a := prN q) (b := .int 1) rfl rfl
  rw [x_boolM, x_cmpGt, opM2_of (f := gtD) (ev_cons h rfl) (x_gtI _ _), R.bind_ok]
  have e : ((1 : Int) < ((q.2 : Nat) : Int)) ↔ 1 < q.2 := by omega
  show R.ok (decide ((1 : Int) < ((q.2 : Nat) : Int))) _ = _
  rw [decide_eq_decide.mpr e]
theorem sure_two (l : List (Nat × Nat)) : decide (((l.filter fun q => decide (1 < q.2)).length : Int) = 0) = sureB l := by
  unfold sureB
  rw [Bool.eq_iff_iff, decide_eq_true_eq, List.all_eq_true]
  have e : (((l.filter fun q => decide (1 < q.2)).length : Int) = 0) ↔ l.filter (fun q => decide (1 < q.2)) = [] := by
    rw [← List.length_eq_zero_iff]
    omega
  rw [e, List.filter_eq_nil_iff]
  constructor
  · intro h q hq
    have := h q hq
    simp at this ⊢
    omega
  · intro h q hq
    have := h q hq
    simp at this ⊢
    omega
theorem hold_ok {L w : Nat} {ps : List Nat} (hL : L < 41) (hw : w < 11) (hp : ∀ p ∈ ps, p < L) (hl : ps.length ≤ 1000) : Z.f_law_knots_hold [lN (ord L (w + 2)), .int (w : Nat), tN ps] = .ok (.bl true) := by
  rw [Z.e_law_knots_hold]
  have ho := ord_len hL (show w + 2 < 13 by omega) (by omega)
  have h1 := tknots_ok Z hL hw hp hl
  have h2 := lknots_ok Z (o := ord L (w + 2)) (w := w) (ps := ps) (by omega) (by omega) (by rw [ho]; exact hp) hl
  have h3 := sure_ok Z hL hw hp hl
  rw [ho] at h2
  have hkl := kns_len (ord L (w + 2)) (w + 2) L ps
  generalize hoo : ord L (w + 2) = o at *
  generalize kns o (w + 2) L ps = l at *
  have hln := len_lN o
  rw [ho] at hln
  have hlen : ∀ ρ : En, ρ[0]? = some (.val (lN o)) → opM (f1 lenD) [.va 0] ρ = .ok (.int (L : Nat)) ρ := fun ρ h => opM_of (ds := [lN o]) (by
    rw [x_ev2, h]
    show R.bind (.ok [] ρ) _ = _
    rw [R.bind_ok, h]
    rfl) hln
  refine run_of (ρ := [.val (lN o), .val (.int (w : Nat)), .val (tN ps), .val (knD l), .val (.bl (sureB l)), .no]) ?_
  refine (seq_nx (ρ' := [.val (lN o), .val (.int (w : Nat)), .val (tN ps), .val (knD l), .no, .no]) (asg_to (callM_ind [lN o, .int (w : Nat), tN ps] rfl (ind_kn l) h2) rfl)).trans ?_
  refine (seq_nx (chkT1 (callM_ind [knD l, knD l] (ev_cons (callM_ind [.int (L : Nat), .int (w : Nat), tN ps] (ev_cons (hlen _ rfl) rfl) (ind_kn l) h1) rfl) rfl (is4k Z l (by omega))))).trans ?_
  have ht := two_ok l (by omega) (.val (lN o)) (.val (.int (w : Nat))) (.val (tN ps)) .no
  refine (seq_nx (ρ' := [.val (lN o), .val (.int (w : Nat)), .val (tN ps), .val (knD l), .val (.bl (sureB l)), .no]) (asg_to (d := .bl (sureB l)) ?_ rfl)).trans ?_
  · refine opM2_of (a := .int ((l.filter fun q => decide (1 < q.2)).length : Nat)) (b := .int 0) (ev_cons (opM_of (ev_cons ht rfl) ?_) rfl) ?_
    · show some (D.int (((l.filter fun q => decide (1 < q.2)).map prN).length : Nat)) = _
      rw [List.length_map]
    · show some (D.bl (decide _)) = _
      rw [sure_two]
  · exact ret_fresh (callM_ind [.bl (sureB l), .bl (sureB l)] (ev_cons (callM_ind [.int (L : Nat), .int (w : Nat), tN ps] (ev_cons (hlen _ rfl) rfl) rfl h3) rfl) rfl (is4b Z _))
theorem sure_run {L w a n : Nat} (hL : L < 41) (hw : w < 11) (hn : n ≤ L / (w + 2)) (ha : a + n ≤ L) : sureB (kns (ord L (w + 2)) (w + 2) L (List.range' a n)) = true := by
  unfold sureB
  rw [List.all_eq_true]
  intro q hq
  have := run_one (a := a) (k := q.1) hL (show w + 2 < 13 by omega) (by omega) hn ha
  rw [← (kns_mem hq).2.2] at this
  exact decide_eq_true (by omega)
end
end K40
namespace K40
open PySem PyProof.Rows L2 Dv
section
variable {Dl : List Nat} {ρ : En}
theorem dr_at {i j : Nat} (h2 : ρ[2]? = some (.own (lN Dl))) (h7 : ρ[7]? = some (.val (.int (i : Nat)))) (hj : j + i < Dl.length) : opM (f1 Dv.intD) [.ex (opM (f2 ixD) [.va 2, .ex (opM (f2 addD) [.ex (retM (.int (j : Nat))), .va 7])])] ρ = .ok (.int (Dl.getD (j + i) 0 : Nat)) ρ :=
  int_n (ev_cons (ix_n (ev_va (by rw [h2]; rfl) (ev_cons (add_n (ev_cons rfl (ev_va (by rw [h7]; rfl) rfl))) rfl)) hj) rfl)
theorem dr_c {j : Nat} (h2 : ρ[2]? = some (.own (lN Dl))) (hj : j < Dl.length) : opM (f1 Dv.intD) [.ex (opM (f2 ixD) [.va 2, .ex (retM (.int (j : Nat)))])] ρ = .ok (.int (Dl.getD j 0 : Nat)) ρ :=
  int_n (ev_cons (ix_n (ev_va (by rw [h2]; rfl) rfl) hj) rfl)
end
theorem count_one {l : List Int} (h : l.Nodup) (x : Int) : l.count x ≤ 1 := List.nodup_iff_count.mp h x
theorem sortI_ge (l : List Nat) : ∀ x ∈ sortI (iN l), ∃ n ∈ l, x = ((n : Nat) : Int) := fun x hx => by
  have := (sortI_perm (iN l)).mem_iff.mp hx
  obtain ⟨n, hn, e⟩ := List.mem_map.mp this
  exact ⟨n, hn, e.symm⟩
theorem tch_len {L d a n : Nat} (h : L < 41) (hd : d < 13) (h0 : 0 < d) : (tch L d a n).length ≤ 40 := by
  unfold tch
  rw [(sortI_perm _).length_eq, List.length_map, List.length_take, List.length_drop, ord_len h hd h0]
  omega
/-- the quotients of touched places -/
def sts (L d a n : Nat) : List Int := (tch L d a n).map fun x => x / (d : Int)
theorem sts_nodup {L d a n : Nat} (h : L < 41) (hd : d < 13) (h0 : 0 < d) (hn : n ≤ L / d) : (sts L d a n).Nodup := by
  have q := run_nodup (s := a) h hd h0 hn
  have e : (sts L d a n).Perm (((((ord L d).drop a).take n).map fun x => x / d).map fun x : Nat => (x : Int)) := by
    unfold sts tch
    refine ((sortI_perm _).map _).trans (List.Perm.of_eq ?_)
    rw [List.map_map, List.map_map]
    refine List.map_congr_left fun x _ => ?_
    show (x : Int) / (d : Int) = ((x / d : Nat) : Int)
    rw [Int.natCast_ediv]
  rw [e.nodup_iff]
  exact List.Pairwise.map _ (fun a b hab z => hab (by omega)) q
section
variable (Z : Pr)
def tB : S := (seqS (asgS 10 (opM (f2 modD) [.ex (opM (f1 Dv.intD) [.ex (opM (f2 ixD) [.va 2, .ex (opM (f2 addD) [.ex (retM (.int 22)), .va 7])])]), .ex (opM (f2 addD) [.va 3, .ex (retM (.int 2))])]) true) (seqS (asgS 11 (iteM (boolM (opM (f2 (cmpD .Eq)) [.ex (opM (f2 modD) [.va 7, .ex (retM (.int 2))]), .ex (retM (.int 0))])) (opM (f2 modD) [.ex (opM (f1 Dv.intD) [.ex (opM (f2 ixD) [.va 2, .ex (opM (f2 addD) [.ex (retM (.int 28)), .va 7])])]), .ex (opM (f2 addD) [.va 3, .ex (retM (.int 2))])]) (opM (f2 fdivD) [.va 3, .va 5])) true) (seqS (asgS 12 (callM Z.f_touched_places [.va 3, .va 5, .va 10, .va 11]) true) (seqS (ifS (notM (truM (.ex (callM Z.f_law_is [.va 12, .ex (opM (f1 tupleD) [.ex (opM (f1 sortedD) [.ex (slB (.va 6) (.va 10) (.ex (opM (f2 addD) [.va 10, .va 11])))])])])))) (retS (retM (.bl false)) false) nxS) (seqS (asgS 13 (compM (seqM (varM 12)) [17] (.nm 17) yesM (opM (f2 fdivD) [.va 17, .va 5])) true) (ifS (andM (boolM (opM (f2 (cmpD .LtE)) [.va 11, .ex (opM (f2 fdivD) [.va 3, .va 5])])) (boolM (opM (f2 (cmpD .Gt)) [.ex (opM (f1 lenD) [.ex (compM (seqM (varM 13)) [18] (.nm 18) (boolM (opM (f2 (cmpD .Gt)) [.ex (cntM 13 (varM 18)), .ex (retM (.int 1))])) (varM 18))]), .ex (retM (.int 0))]))) (retS (retM (.bl false)) false) nxS))))))
theorem cnt_ok {ρ : En} {i v : Nat} {l : List Int} {x : Int} (h : ρ[i]? = some (.val (lI l))) (hv : ρ[v]? = some (.val (.int x))) : cntM i (varM v) ρ = .ok (.int (l.count x : Nat)) ρ := by
  unfold cntM
  rw [h]
  show (varM v ρ).bind _ = _
  rw [show varM v ρ = .ok (.int x) ρ from by rw [x_varM, hv], R.bind_ok, h]
  show (match (intsOf (l.map D.int)).map fun ns => ns.count x with
    | some j => R.ok (D.int (j : Nat)) ρ
    | none => R.bad) = _
  rw [intsOf_ints]
  rfl
theorem t_ok {Dl : List Nat} {L d i : Nat} (hL : L < 41) (hd : d < 13) (h0 : 0 < d) (hi : i < 6) (hD : Dl.length = 60) (x0 x1 x4 x8 x9 x10 x11 x12 x13 x14 x15 x16 : Sl) : ∃ y10 y11 y12 y13,
    tB Z [x0, x1, .own (lN Dl), .val (.int (L : Nat)), x4, .val (.int (d : Nat)), .own (lN (ord L d)), .val (.int (i : Nat)), x8, x9, x10, x11, x12, x13, x14, x15, x16, .no, .no] = .ok .nx [x0, x1, .own (lN Dl), .val (.int (L : Nat)), x4, .val (.int (d : Nat)), .own (lN (ord L d)), .val (.int (i : Nat)), x8, x9, y10, y11, y12, y13, x14, x15, x16, .no, .no] := by
  obtain ⟨a, ha⟩ : ∃ a, a = Dl.getD (22 + i) 0 % (L + 2) := ⟨_, rfl⟩
  obtain ⟨n, hn⟩ : ∃ n, n = if i % 2 = 0 then Dl.getD (28 + i) 0 % (L + 2) else L / d := ⟨_, rfl⟩
  have s1 : (asgS 10 (opM (f2 modD) [.ex (opM (f1 Dv.intD) [.ex (opM (f2 ixD) [.va 2, .ex (opM (f2 addD) [.ex (retM (.int 22)), .va 7])])]), .ex (opM (f2 addD) [.va 3, .ex (retM (.int 2))])]) true) [x0, x1, .own (lN Dl), .val (.int (L : Nat)), x4, .val (.int (d : Nat)), .own (lN (ord L d)), .val (.int (i : Nat)), x8, x9, x10, x11, x12, x13, x14, x15, x16, .no, .no] = .ok .nx [x0, x1, .own (lN Dl), .val (.int (L : Nat)), x4, .val (.int (d : Nat)), .own (lN (ord L d)), .val (.int (i : Nat)), x8, x9, .val (.int (a : Nat)), x11, x12, x13, x14, x15, x16, .no, .no] := by
    rw [ha]
    exact asg_to (mod_n (ev_cons (dr_at (j := 22) rfl rfl (by omega)) (ev_cons (add_n (b := 2) (ev_va rfl rfl)) rfl)) (by omega)) rfl
  have s2 : (asgS 11 (iteM (boolM (opM (f2 (cmpD .Eq)) [.ex (opM (f2 modD) [.va 7, .ex (retM (.int 2))]), .ex (retM (.int 0))])) (opM (f2 modD) [.ex (opM (f1 Dv.intD) [.ex (opM (f2 ixD) [.va 2, .ex (opM (f2 addD) [.ex (retM (.int 28)), .va 7])])]), .ex (opM (f2 addD) [.va 3, .ex (retM (.int 2))])]) (opM (f2 fdivD) [.va 3, .va 5])) true) [x0, x1, .own (lN Dl), .val (.int (L : Nat)), x4, .val (.int (d : Nat)), .own (lN (ord L d)), .val (.int (i : Nat)), x8, x9, .val (.int (a : Nat)), x11, x12, x13, x14, x15, x16, .no, .no] = .ok .nx [x0, x1, .own (lN Dl), .val (.int (L : Nat)), x4, .val (.int (d : Nat)), .own (lN (ord L d)), .val (.int (i : Nat)), x8, x9, .val (.int (a : Nat)), .val (.int (n : Nat)), x12, x13, x14, x15, x16, .no, .no] := by
    rw [hn]
    have hc := eq_n (os := [.ex (opM (f2 modD) [.va 7, .ex (retM (.int 2))]), .ex (retM (.int 0))]) (ρ := [x0, x1, .own (lN Dl), .val (.int (L : Nat)), x4, .val (.int (d : Nat)), .own (lN (ord L d)), .val (.int (i : Nat)), x8, x9, .val (.int (a : Nat)), x11, x12, x13, x14, x15, x16, .no, .no]) (a := i % 2) (b := 0) (ev_cons (mod_n (b := 2) (ev_va rfl rfl) (by decide)) rfl)
    by_cases c : i % 2 = 0
    · rw [decide_eq_true c] at hc
      rw [if_pos c]
      exact asg_to ((ite_t hc).trans (mod_n (ev_cons (dr_at (j := 28) rfl rfl (by omega)) (ev_cons (add_n (b := 2) (ev_va rfl rfl)) rfl)) (by omega))) rfl
    · rw [decide_eq_false c] at hc
      rw [if_neg c]
      exact asg_to ((ite_f hc).trans (div_n (ev_v2 rfl rfl) h0 (by omega))) rfl
  have ht := touched_ok Z (L := L) (d := d) (a := a) (n := n) hL hd h0
  have s3 : (asgS 12 (callM Z.f_touched_places [.va 3, .va 5, .va 10, .va 11]) true) [x0, x1, .own (lN Dl), .val (.int (L : Nat)), x4, .val (.int (d : Nat)), .own (lN (ord L d)), .val (.int (i : Nat)), x8, x9, .val (.int (a : Nat)), .val (.int (n : Nat)), x12, x13, x14, x15, x16, .no, .no] = .ok .nx [x0, x1, .own (lN Dl), .val (.int (L : Nat)), x4, .val (.int (d : Nat)), .own (lN (ord L d)), .val (.int (i : Nat)), x8, x9, .val (.int (a : Nat)), .val (.int (n : Nat)), .val (tI (tch L d a n)), x13, x14, x15, x16, .no, .no] :=
    asg_to (callM_ind [.int (L : Nat), .int (d : Nat), .int (a : Nat), .int (n : Nat)] rfl (show indep (tI (tch L d a n)) = true from pureAll_ints _) ht) rfl
  have s4 := chkT1 (s := retS (retM (.bl false)) false) (show (callM Z.f_law_is [.va 12, .ex (opM (f1 tupleD) [.ex (opM (f1 sortedD) [.ex (slB (.va 6) (.va 10) (.ex (opM (f2 addD) [.va 10, .va 11])))])])]) [x0, x1, .own (lN Dl), .val (.int (L : Nat)), x4, .val (.int (d : Nat)), .own (lN (ord L d)), .val (.int (i : Nat)), x8, x9, .val (.int (a : Nat)), .val (.int (n : Nat)), .val (tI (tch L d a n)), x13, x14, x15, x16, .no, .no] = .ok (.bl true) [x0, x1, .own (lN Dl), .val (.int (L : Nat)), x4, .val (.int (d : Nat)), .own (lN (ord L d)), .val (.int (i : Nat)), x8, x9, .val (.int (a : Nat)), .val (.int (n : Nat)), .val (tI (tch L d a n)), x13, x14, x15, x16, .no, .no] from by
    have hs := slB_of (oa := .va 6) (oc := .va 10) (oc2 := .ex (opM (f2 addD) [.va 10, .va 11])) (d := lN (ord L d)) (i := ((a : Nat) : Int)) (j := ((a + n : Nat) : Int)) (ρ := [x0, x1, .own (lN Dl), .val (.int (L : Nat)), x4, .val (.int (d : Nat)), .own (lN (ord L d)), .val (.int (i : Nat)), x8, x9, .val (.int (a : Nat)), .val (.int (n : Nat)), .val (tI (tch L d a n)), x13, x14, x15, x16, .no, .no])
      (ev_v2 rfl rfl) (ev_cons (add_n (ev_v2 rfl rfl)) rfl) rfl (sl_lN _ (by omega))
    rw [show a + n - a = n by omega] at hs
    exact callM_ind [tI (tch L d a n), tI (tch L d a n)] (ev_va rfl (ev_cons (opM_of (ev_cons (opM_of (ev_cons hs rfl) (sort_lI _)) rfl) (tup_l _)) rfl)) rfl (is4i Z _ (Nat.le_trans (tch_len hL hd h0) (by decide))))
  have s5 : (asgS 13 (compM (seqM (varM 12)) [17] (.nm 17) yesM (opM (f2 fdivD) [.va 17, .va 5])) true) [x0, x1, .own (lN Dl), .val (.int (L : Nat)), x4, .val (.int (d : Nat)), .own (lN (ord L d)), .val (.int (i : Nat)), x8, x9, .val (.int (a : Nat)), .val (.int (n : Nat)), .val (tI (tch L d a n)), x13, x14, x15, x16, .no, .no] = .ok .nx [x0, x1, .own (lN Dl), .val (.int (L : Nat)), x4, .val (.int (d : Nat)), .own (lN (ord L d)), .val (.int (i : Nat)), x8, x9, .val (.int (a : Nat)), .val (.int (n : Nat)), .val (tI (tch L d a n)), .own (lI (sts L d a n)), x14, x15, x16, .no, .no] := by
    have q := compX (own := [17]) (t := .nm 17) (elt := opM (f2 fdivD) [.va 17, .va 5]) (mi := seqM (varM 12)) (tch L d a n) D.int (fun x => D.int (x / (d : Int))) (ρ := [x0, x1, .own (lN Dl), .val (.int (L : Nat)), x4, .val (.int (d : Nat)), .own (lN (ord L d)), .val (.int (i : Nat)), x8, x9, .val (.int (a : Nat)), .val (.int (n : Nat)), .val (tI (tch L d a n)), x13, x14, x15, x16, .no, .no]) (ρ1 := [x0, x1, .own (lN Dl), .val (.int (L : Nat)), x4, .val (.int (d : Nat)), .own (lN (ord L d)), .val (.int (i : Nat)), x8, x9, .val (.int (a : Nat)), .val (.int (n : Nat)), .val (tI (tch L d a n)), x13, x14, x15, x16, .no, .no]) (ρw := [x0, x1, .own (lN Dl), .val (.int (L : Nat)), x4, .val (.int (d : Nat)), .own (lN (ord L d)), .val (.int (i : Nat)), x8, x9, .val (.int (a : Nat)), .val (.int (n : Nat)), .val (tI (tch L d a n)), x13, x14, x15, x16, .no, .no])
      (seq_one rfl (seq_t _)) (Nat.le_trans (tch_len hL hd h0) (by decide)) rfl rfl rfl fun x _ => ⟨[x0, x1, .own (lN Dl), .val (.int (L : Nat)), x4, .val (.int (d : Nat)), .own (lN (ord L d)), .val (.int (i : Nat)), x8, x9, .val (.int (a : Nat)), .val (.int (n : Nat)), .val (tI (tch L d a n)), x13, x14, x15, x16, .val (.int x), .no], rfl,
        opM2_of (a := .int x) (b := .int (d : Nat)) (ev_v2 rfl rfl) (by rw [x_div, if_pos (cdiv_ok (j := (d : Int)) ⟨by omega, by omega⟩)]), rfl⟩
    have e : D.lst ((tch L d a n).map fun x => D.int (x / (d : Int))) = lI (sts L d a n) := by
      unfold sts lI
      rw [List.map_map]
      rfl
    rw [e] at q
    exact asg_to q rfl
  have hc := le_n (os := [.va 11, .ex (opM (f2 fdivD) [.va 3, .va 5])]) (ρ := [x0, x1, .own (lN Dl), .val (.int (L : Nat)), x4, .val (.int (d : Nat)), .own (lN (ord L d)), .val (.int (i : Nat)), x8, x9, .val (.int (a : Nat)), .val (.int (n : Nat)), .val (tI (tch L d a n)), .own (lI (sts L d a n)), x14, x15, x16, .no, .no]) (a := n) (b := L / d) (ev_va rfl (ev_cons (div_n (ev_v2 rfl rfl) h0 (by omega)) rfl))
  by_cases c : n ≤ L / d
  rotate_left
  · rw [decide_eq_false c] at hc
    exact ⟨.val (.int (a : Nat)), .val (.int (n : Nat)), .val (tI (tch L d a n)), .own (lI (sts L d a n)), (seq_nx s1).trans ((seq_nx s2).trans ((seq_nx s3).trans ((seq_nx s4).trans ((seq_nx s5).trans ((ifS_false (and_f hc)).trans rfl)))))⟩
  rw [decide_eq_true c] at hc
  refine ⟨.val (.int (a : Nat)), .val (.int (n : Nat)), .val (tI (tch L d a n)), .val (lI (sts L d a n)), (seq_nx s1).trans ((seq_nx s2).trans ((seq_nx s3).trans ((seq_nx s4).trans ((seq_nx s5).trans ((ifS_false ?_).trans rfl)))))⟩
  rw [x_andM, hc, R.bind_ok, if_pos rfl]
  have nd := sts_nodup (a := a) hL hd h0 c
  have sl : (sts L d a n).length ≤ 40 := by
    unfold sts
    rw [List.length_map]
    exact tch_len hL hd h0
  generalize sts L d a n = st at *
  have q := compXG (own := [18]) (t := .nm 18) (elt := varM 18) (cond := (boolM (opM (f2 (cmpD .Gt)) [.ex (cntM 13 (varM 18)), .ex (retM (.int 1))]))) (mi := seqM (varM 13)) st D.int (fun _ => false) D.int (ρ := [x0, x1, .own (lN Dl), .val (.int (L : Nat)), x4, .val (.int (d : Nat)), .own (lN (ord L d)), .val (.int (i : Nat)), x8, x9, .val (.int (a : Nat)), .val (.int (n : Nat)), .val (tI (tch L d a n)), .own (lI st), x14, x15, x16, .no, .no]) (ρ1 := [x0, x1, .own (lN Dl), .val (.int (L : Nat)), x4, .val (.int (d : Nat)), .own (lN (ord L d)), .val (.int (i : Nat)), x8, x9, .val (.int (a : Nat)), .val (.int (n : Nat)), .val (tI (tch L d a n)), .val (lI st), x14, x15, x16, .no, .no]) (ρw := [x0, x1, .own (lN Dl), .val (.int (L : Nat)), x4, .val (.int (d : Nat)), .own (lN (ord L d)), .val (.int (i : Nat)), x8, x9, .val (.int (a : Nat)), .val (.int (n : Nat)), .val (tI (tch L d a n)), .val (lI st), x14, x15, x16, .no, .no])
    (seq_one rfl (seq_l _)) (by omega) rfl rfl rfl fun x _ => ⟨[x0, x1, .own (lN Dl), .val (.int (L : Nat)), x4, .val (.int (d : Nat)), .own (lN (ord L d)), .val (.int (i : Nat)), x8, x9, .val (.int (a : Nat)), .val (.int (n : Nat)), .val (tI (tch L d a n)), .val (lI st), x14, x15, x16, .no, .val (.int x)], rfl,
      (gt_n (b := 1) (ev_cons (cnt_ok rfl rfl) rfl)).trans (by rw [decide_eq_false (by have := count_one nd x; omega)]), fun z => (nomatch z), rfl⟩
  have e2 : st.filter (fun _ => false) = [] := by simp
  rw [e2] at q
  have q2 := opM1 (f := f1 lenD) q (r := .int 0) rfl
  rw [x_boolM, x_opM, x_ev1, q2, R.bind_ok]
  rfl
end
end K40
namespace K40
open PySem PyProof.Rows L2 Dv
section
variable (Z : Pr)
def uB : S := (seqS (asgS 14 (opM (f2 addD) [.ex (retM (.int 1)), .ex (opM (f2 modD) [.ex (opM (f1 Dv.intD) [.ex (opM (f2 ixD) [.va 2, .ex (opM (f2 addD) [.ex (retM (.int 34)), .va 7])])]), .ex (retM (.int 7))])]) true) (seqS (asgS 15 (opM (f1 tupleD) [.ex (compM (Dv.opI rng1 [.va 3]) [17] (.nm 17) (boolM (opM (f2 (cmpD .Eq)) [.ex (opM (f2 modD) [.ex (opM (f2 addD) [.ex (opM (f1 Dv.intD) [.ex (opM (f2 ixD) [.va 2, .ex (opM (f2 addD) [.ex (retM (.int 38)), .va 7])])]), .ex (opM (f2 mulD) [.va 17, .va 17])]), .va 14]), .ex (retM (.int 0))])) (varM 17))]) true) (seqS (asgS 10 (opM (f2 modD) [.ex (opM (f1 Dv.intD) [.ex (opM (f2 ixD) [.va 2, .ex (opM (f2 addD) [.ex (retM (.int 42)), .va 7])])]), .ex (opM (f2 addD) [.va 3, .ex (retM (.int 1))])]) true) (seqS (asgS 16 (opM (f1 tupleD) [.ex (compM (Dv.opI rng2 [.va 10, .ex (opM (minL) [.va 3, .ex (opM (f2 addD) [.va 10, .ex (opM (f2 fdivD) [.va 3, .ex (opM (f2 addD) [.va 8, .ex (retM (.int 2))])])])])]) [17] (.nm 17) yesM (varM 17))]) true) (seqS (ifS (orM (notM (truM (.ex (callM Z.f_law_knots_hold [.va 9, .va 8, .va 15])))) (notM (truM (.ex (callM Z.f_law_knots_hold [.va 9, .va 8, .va 16]))))) (retS (retM (.bl false)) false) nxS) (ifS (orM (notM (truM (.ex (callM Z.f_law_is [.ex (callM Z.f_is_sure_damage [.va 3, .va 8, .va 16]), .ex (retM (.bl true))])))) (notM (truM (.ex (callM Z.f_law_is [.ex (callM Z.f_touched_knots [.va 3, .va 8, .ex (tupM [])]), .ex (tupM [])]))))) (retS (retM (.bl false)) false) nxS))))))
theorem u_ok {Dl : List Nat} {L w i : Nat} (hL : L < 41) (hw : w < 11) (hi : i < 4) (hD : Dl.length = 60) (x0 x1 x4 x5 x6 x10 x11 x12 x13 x14 x15 x16 : Sl) : ∃ y10 y14 y15 y16,
    uB Z [x0, x1, .own (lN Dl), .val (.int (L : Nat)), x4, x5, x6, .val (.int (i : Nat)), .val (.int (w : Nat)), .own (lN (ord L (w + 2))), x10, x11, x12, x13, x14, x15, x16, .no, .no] = .ok .nx [x0, x1, .own (lN Dl), .val (.int (L : Nat)), x4, x5, x6, .val (.int (i : Nat)), .val (.int (w : Nat)), .own (lN (ord L (w + 2))), y10, x11, x12, x13, y14, y15, y16, .no, .no] := by
  obtain ⟨md, hmd⟩ : ∃ md, md = 1 + Dl.getD (34 + i) 0 % 7 := ⟨_, rfl⟩
  obtain ⟨sm, hsm⟩ : ∃ sm, sm = (List.range L).filter fun p => decide ((Dl.getD (38 + i) 0 + p * p) % md = 0) := ⟨_, rfl⟩
  obtain ⟨a, ha⟩ : ∃ a, a = Dl.getD (42 + i) 0 % (L + 1) := ⟨_, rfl⟩
  obtain ⟨rn, hrn⟩ : ∃ rn, rn = List.range' a (min L (a + L / (w + 2)) - a) := ⟨_, rfl⟩
  have hmd0 : 0 < md := by omega
  have haL : a ≤ L := by rw [ha]; have := Nat.mod_lt (Dl.getD (42 + i) 0) (show 0 < L + 1 by omega); omega
  have s1 : (asgS 14 (opM (f2 addD) [.ex (retM (.int 1)), .ex (opM (f2 modD) [.ex (opM (f1 Dv.intD) [.ex (opM (f2 ixD) [.va 2, .ex (opM (f2 addD) [.ex (retM (.int 34)), .va 7])])]), .ex (retM (.int 7))])]) true) [x0, x1, .own (lN Dl), .val (.int (L : Nat)), x4, x5, x6, .val (.int (i : Nat)), .val (.int (w : Nat)), .own (lN (ord L (w + 2))), x10, x11, x12, x13, x14, x15, x16, .no, .no] = .ok .nx [x0, x1, .own (lN Dl), .val (.int (L : Nat)), x4, x5, x6, .val (.int (i : Nat)), .val (.int (w : Nat)), .own (lN (ord L (w + 2))), x10, x11, x12, x13, .val (.int (md : Nat)), x15, x16, .no, .no] := by
    rw [hmd]
    exact asg_to (add_n (a := 1) (ev_cons rfl (ev_cons (mod_n (b := 7) (ev_cons (dr_at (j := 34) rfl rfl (by omega)) rfl) (by decide)) rfl))) rfl
  have s2 : (asgS 15 (opM (f1 tupleD) [.ex (compM (Dv.opI rng1 [.va 3]) [17] (.nm 17) (boolM (opM (f2 (cmpD .Eq)) [.ex (opM (f2 modD) [.ex (opM (f2 addD) [.ex (opM (f1 Dv.intD) [.ex (opM (f2 ixD) [.va 2, .ex (opM (f2 addD) [.ex (retM (.int 38)), .va 7])])]), .ex (opM (f2 mulD) [.va 17, .va 17])]), .va 14]), .ex (retM (.int 0))])) (varM 17))]) true) [x0, x1, .own (lN Dl), .val (.int (L : Nat)), x4, x5, x6, .val (.int (i : Nat)), .val (.int (w : Nat)), .own (lN (ord L (w + 2))), x10, x11, x12, x13, .val (.int (md : Nat)), x15, x16, .no, .no] = .ok .nx [x0, x1, .own (lN Dl), .val (.int (L : Nat)), x4, x5, x6, .val (.int (i : Nat)), .val (.int (w : Nat)), .own (lN (ord L (w + 2))), x10, x11, x12, x13, .val (.int (md : Nat)), .val (tN sm), x16, .no, .no] := by
    have q := comp1 (v := 17) (mi := Dv.opI rng1 [.va 3]) (cond := (boolM (opM (f2 (cmpD .Eq)) [.ex (opM (f2 modD) [.ex (opM (f2 addD) [.ex (opM (f1 Dv.intD) [.ex (opM (f2 ixD) [.va 2, .ex (opM (f2 addD) [.ex (retM (.int 38)), .va 7])])]), .ex (opM (f2 mulD) [.va 17, .va 17])]), .va 14]), .ex (retM (.int 0))]))) (elt := varM 17) (ρ := [x0, x1, .own (lN Dl), .val (.int (L : Nat)), x4, x5, x6, .val (.int (i : Nat)), .val (.int (w : Nat)), .own (lN (ord L (w + 2))), x10, x11, x12, x13, .val (.int (md : Nat)), x15, x16, .no, .no]) (List.range L) (fun p => decide ((Dl.getD (38 + i) 0 + p * p) % md = 0)) (fun p => D.int (p : Nat))
      (opI_of (ds := [.int (L : Nat)]) (ev_va rfl rfl) (rng_nn (by omega))) (by rw [List.length_range]; omega) rfl fun p hp => ⟨eq_n (b := 0) (ev_cons (mod_n (ev_cons (add_n (ev_cons (dr_at (j := 38) rfl rfl (by omega)) (ev_cons (mul_n (ev_v2 rfl rfl) (by have := List.mem_range.mp hp; omega)) rfl))) (ev_va rfl rfl)) hmd0) rfl), fun _ => rfl⟩
    rw [← hsm, lst_lN] at q
    exact asg_to (opM_of (ev_cons q rfl) (tup_lN _)) rfl
  have s3 : (asgS 10 (opM (f2 modD) [.ex (opM (f1 Dv.intD) [.ex (opM (f2 ixD) [.va 2, .ex (opM (f2 addD) [.ex (retM (.int 42)), .va 7])])]), .ex (opM (f2 addD) [.va 3, .ex (retM (.int 1))])]) true) [x0, x1, .own (lN Dl), .val (.int (L : Nat)), x4, x5, x6, .val (.int (i : Nat)), .val (.int (w : Nat)), .own (lN (ord L (w + 2))), x10, x11, x12, x13, .val (.int (md : Nat)), .val (tN sm), x16, .no, .no] = .ok .nx [x0, x1, .own (lN Dl), .val (.int (L : Nat)), x4, x5, x6, .val (.int (i : Nat)), .val (.int (w : Nat)), .own (lN (ord L (w + 2))), .val (.int (a : Nat)), x11, x12, x13, .val (.int (md : Nat)), .val (tN sm), x16, .no, .no] := by
    rw [ha]
    exact asg_to (mod_n (ev_cons (dr_at (j := 42) rfl rfl (by omega)) (ev_cons (add_n (b := 1) (ev_va rfl rfl)) rfl)) (by omega)) rfl
  have s4 : (asgS 16 (opM (f1 tupleD) [.ex (compM (Dv.opI rng2 [.va 10, .ex (opM (minL) [.va 3, .ex (opM (f2 addD) [.va 10, .ex (opM (f2 fdivD) [.va 3, .ex (opM (f2 addD) [.va 8, .ex (retM (.int 2))])])])])]) [17] (.nm 17) yesM (varM 17))]) true) [x0, x1, .own (lN Dl), .val (.int (L : Nat)), x4, x5, x6, .val (.int (i : Nat)), .val (.int (w : Nat)), .own (lN (ord L (w + 2))), .val (.int (a : Nat)), x11, x12, x13, .val (.int (md : Nat)), .val (tN sm), x16, .no, .no] = .ok .nx [x0, x1, .own (lN Dl), .val (.int (L : Nat)), x4, x5, x6, .val (.int (i : Nat)), .val (.int (w : Nat)), .own (lN (ord L (w + 2))), .val (.int (a : Nat)), x11, x12, x13, .val (.int (md : Nat)), .val (tN sm), .val (tN rn), .no, .no] := by
    have q := comp1 (v := 17) (mi := (Dv.opI rng2 [.va 10, .ex (opM (minL) [.va 3, .ex (opM (f2 addD) [.va 10, .ex (opM (f2 fdivD) [.va 3, .ex (opM (f2 addD) [.va 8, .ex (retM (.int 2))])])])])])) (cond := yesM) (elt := varM 17) (ρ := [x0, x1, .own (lN Dl), .val (.int (L : Nat)), x4, x5, x6, .val (.int (i : Nat)), .val (.int (w : Nat)), .own (lN (ord L (w + 2))), .val (.int (a : Nat)), x11, x12, x13, .val (.int (md : Nat)), .val (tN sm), x16, .no, .no]) rn (fun _ => true) (fun p => D.int (p : Nat))
      (by
        rw [hrn]
        exact opI_of (ds := [.int (a : Nat), .int (min L (a + L / (w + 2)) : Nat)]) (ev_va rfl (ev_cons (min_n (ev_va rfl (ev_cons (add_n (ev_va rfl (ev_cons (div_n (ev_va rfl (ev_cons (add_n (b := 2) (ev_va rfl rfl)) rfl)) (by omega) (by omega)) rfl))) rfl))) rfl)) (rng2_nn (by omega) (by omega))) (by rw [hrn, List.length_range']; omega) rfl fun p hp => ⟨rfl, fun _ => rfl⟩
    rw [filter_tt, lst_lN] at q
    exact asg_to (opM_of (ev_cons q rfl) (tup_lN _)) rfl
  have hs1 : ∀ p ∈ sm, p < L := fun p hp => by
    rw [hsm] at hp
    exact List.mem_range.mp (List.mem_filter.mp hp).1
  have hs2 : sm.length ≤ 1000 := by
    rw [hsm]
    exact Nat.le_trans (List.length_filter_le _ _) (by rw [List.length_range]; omega)
  have hr1 : ∀ p ∈ rn, p < L := fun p hp => by
    rw [hrn, List.mem_range'_1] at hp
    omega
  have hr2 : rn.length ≤ 1000 := by rw [hrn, List.length_range']; omega
  have h1 := hold_ok Z hL hw hs1 hs2
  have h2 := hold_ok Z hL hw hr1 hr2
  have h3 := sure_ok Z hL hw hr1 hr2
  have hsr : sureB (kns (ord L (w + 2)) (w + 2) L rn) = true := by
    rw [hrn]
    exact sure_run hL hw (by generalize L / (w + 2) = q; omega) (by generalize L / (w + 2) = q; omega)
  rw [hsr] at h3
  have h4 := tknots_ok Z hL hw (ps := []) (fun p hp => nomatch hp) (by decide)
  have hk0 : kns (ord L (w + 2)) (w + 2) L [] = [] := by
    unfold kns knt
    simp
  rw [hk0] at h4
  have s5 := chkO (s := retS (retM (.bl false)) false) (show (callM Z.f_law_knots_hold [.va 9, .va 8, .va 15]) [x0, x1, .own (lN Dl), .val (.int (L : Nat)), x4, x5, x6, .val (.int (i : Nat)), .val (.int (w : Nat)), .own (lN (ord L (w + 2))), .val (.int (a : Nat)), x11, x12, x13, .val (.int (md : Nat)), .val (tN sm), .val (tN rn), .no, .no] = .ok (.bl true) [x0, x1, .own (lN Dl), .val (.int (L : Nat)), x4, x5, x6, .val (.int (i : Nat)), .val (.int (w : Nat)), .own (lN (ord L (w + 2))), .val (.int (a : Nat)), x11, x12, x13, .val (.int (md : Nat)), .val (tN sm), .val (tN rn), .no, .no] from callM_ind [lN (ord L (w + 2)), .int (w : Nat), tN sm] (ev_va rfl (ev_v2 rfl rfl)) rfl h1)
    (show (callM Z.f_law_knots_hold [.va 9, .va 8, .va 16]) [x0, x1, .own (lN Dl), .val (.int (L : Nat)), x4, x5, x6, .val (.int (i : Nat)), .val (.int (w : Nat)), .own (lN (ord L (w + 2))), .val (.int (a : Nat)), x11, x12, x13, .val (.int (md : Nat)), .val (tN sm), .val (tN rn), .no, .no] = .ok (.bl true) [x0, x1, .own (lN Dl), .val (.int (L : Nat)), x4, x5, x6, .val (.int (i : Nat)), .val (.int (w : Nat)), .own (lN (ord L (w + 2))), .val (.int (a : Nat)), x11, x12, x13, .val (.int (md : Nat)), .val (tN sm), .val (tN rn), .no, .no] from callM_ind [lN (ord L (w + 2)), .int (w : Nat), tN rn] (ev_va rfl (ev_v2 rfl rfl)) rfl h2)
  have s6 := chkO (s := retS (retM (.bl false)) false) (show (callM Z.f_law_is [.ex (callM Z.f_is_sure_damage [.va 3, .va 8, .va 16]), .ex (retM (.bl true))]) [x0, x1, .own (lN Dl), .val (.int (L : Nat)), x4, x5, x6, .val (.int (i : Nat)), .val (.int (w : Nat)), .own (lN (ord L (w + 2))), .val (.int (a : Nat)), x11, x12, x13, .val (.int (md : Nat)), .val (tN sm), .val (tN rn), .no, .no] = .ok (.bl true) [x0, x1, .own (lN Dl), .val (.int (L : Nat)), x4, x5, x6, .val (.int (i : Nat)), .val (.int (w : Nat)), .own (lN (ord L (w + 2))), .val (.int (a : Nat)), x11, x12, x13, .val (.int (md : Nat)), .val (tN sm), .val (tN rn), .no, .no] from callM_ind [.bl true, .bl true] (ev_cons (callM_ind [.int (L : Nat), .int (w : Nat), tN rn] (ev_va rfl (ev_v2 rfl rfl)) rfl h3) rfl) rfl (is4b Z true))
    (show (callM Z.f_law_is [.ex (callM Z.f_touched_knots [.va 3, .va 8, .ex (tupM [])]), .ex (tupM [])]) [x0, x1, .own (lN Dl), .val (.int (L : Nat)), x4, x5, x6, .val (.int (i : Nat)), .val (.int (w : Nat)), .own (lN (ord L (w + 2))), .val (.int (a : Nat)), x11, x12, x13, .val (.int (md : Nat)), .val (tN sm), .val (tN rn), .no, .no] = .ok (.bl true) [x0, x1, .own (lN Dl), .val (.int (L : Nat)), x4, x5, x6, .val (.int (i : Nat)), .val (.int (w : Nat)), .own (lN (ord L (w + 2))), .val (.int (a : Nat)), x11, x12, x13, .val (.int (md : Nat)), .val (tN sm), .val (tN rn), .no, .no] from callM_ind [knD [], knD []] (ev_cons (callM_ind [.int (L : Nat), .int (w : Nat), tN []] (ev_va rfl (ev_va rfl (ev_cons rfl rfl))) rfl h4) rfl) rfl (is4k Z [] (by decide)))
  exact ⟨_, _, _, _, (seq_nx s1).trans ((seq_nx s2).trans ((seq_nx s3).trans ((seq_nx s4).trans ((seq_nx s5).trans s6))))⟩
end
end K40
namespace K40
open PySem PyProof.Rows L2 Dv
section
variable (Z : Pr)
def rowN (Dl : List Nat) (L : Nat) : List Nat := (List.range L).map fun p => Dl.getD (1 + p % 20) 0 * (p + 1) % 256
def kB : S := (seqS (asgS 2 (callM Z.f_law_draws [.ex (callM Z.f_law_cell [.va 0, .va 1]), .ex (retM (.int 60))]) true) (seqS (asgS 3 (opM (f2 modD) [.ex (opM (f1 Dv.intD) [.ex (opM (f2 ixD) [.va 2, .ex (retM (.int 0))])]), .ex (retM (.int 41))]) true) (seqS (asgS 4 (opM (f1 tupleD) [.ex (compM (Dv.opI rng1 [.va 3]) [17] (.nm 17) yesM (opM (f2 modD) [.ex (opM (f2 mulD) [.ex (opM (f1 Dv.intD) [.ex (opM (f2 ixD) [.va 2, .ex (opM (f2 addD) [.ex (retM (.int 1)), .ex (opM (f2 modD) [.va 17, .ex (retM (.int 20))])])])]), .ex (opM (f2 addD) [.va 17, .ex (retM (.int 1))])]), .ex (retM (.int 256))]))]) true) (seqS (asgS 5 (opM (f2 addD) [.ex (retM (.int 1)), .ex (opM (f2 modD) [.ex (opM (f1 Dv.intD) [.ex (opM (f2 ixD) [.va 2, .ex (retM (.int 21))])]), .ex (retM (.int 12))])]) true) (seqS (asgS 6 (callM Z.f_law_order [.va 3, .va 5]) true) (seqS (ifS (notM (truM (.ex (callM Z.f_law_is [.ex (callM Z.f_woven_bytes [.va 4, .va 5]), .ex (callM Z.f_law_woven [.va 4, .va 5])])))) (retS (retM (.bl false)) false) nxS) (seqS (ifS (notM (truM (.ex (callM Z.f_law_is [.ex (callM Z.f_unwoven_bytes [.va 4, .va 5]), .ex (callM Z.f_law_unwoven [.va 4, .va 5])])))) (retS (retM (.bl false)) false) nxS) (seqS (ifS (notM (truM (.ex (callM Z.f_law_is [.ex (callM Z.f_unwoven_bytes [.ex (callM Z.f_law_woven [.va 4, .va 5]), .va 5]), .va 4])))) (retS (retM (.bl false)) false) nxS) (seqS (forS (Dv.opI rng1 [.ex (retM (.int 6))]) (.nm 7) (seqS (asgS 10 (opM (f2 modD) [.ex (opM (f1 Dv.intD) [.ex (opM (f2 ixD) [.va 2, .ex (opM (f2 addD) [.ex (retM (.int 22)), .va 7])])]), .ex (opM (f2 addD) [.va 3, .ex (retM (.int 2))])]) true) (seqS (asgS 11 (iteM (boolM (opM (f2 (cmpD .Eq)) [.ex (opM (f2 modD) [.va 7, .ex (retM (.int 2))]), .ex (retM (.int 0))])) (opM (f2 modD) [.ex (opM (f1 Dv.intD) [.ex (opM (f2 ixD) [.va 2, .ex (opM (f2 addD) [.ex (retM (.int 28)), .va 7])])]), .ex (opM (f2 addD) [.va 3, .ex (retM (.int 2))])]) (opM (f2 fdivD) [.va 3, .va 5])) true) (seqS (asgS 12 (callM Z.f_touched_places [.va 3, .va 5, .va 10, .va 11]) true) (seqS (ifS (notM (truM (.ex (callM Z.f_law_is [.va 12, .ex (opM (f1 tupleD) [.ex (opM (f1 sortedD) [.ex (slB (.va 6) (.va 10) (.ex (opM (f2 addD) [.va 10, .va 11])))])])])))) (retS (retM (.bl false)) false) nxS) (seqS (asgS 13 (compM (seqM (varM 12)) [17] (.nm 17) yesM (opM (f2 fdivD) [.va 17, .va 5])) true) (ifS (andM (boolM (opM (f2 (cmpD .LtE)) [.va 11, .ex (opM (f2 fdivD) [.va 3, .va 5])])) (boolM (opM (f2 (cmpD .Gt)) [.ex (opM (f1 lenD) [.ex (compM (seqM (varM 13)) [18] (.nm 18) (boolM (opM (f2 (cmpD .Gt)) [.ex (cntM 13 (varM 18)), .ex (retM (.int 1))])) (varM 18))]), .ex (retM (.int 0))]))) (retS (retM (.bl false)) false) nxS))))))) (seqS (asgS 8 (opM (f2 addD) [.ex (retM (.int 1)), .ex (opM (f2 modD) [.ex (opM (f1 Dv.intD) [.ex (opM (f2 ixD) [.va 2, .ex (retM (.int 21))])]), .ex (retM (.int 7))])]) true) (seqS (asgS 9 (callM Z.f_law_order [.va 3, .ex (opM (f2 addD) [.va 8, .ex (retM (.int 2))])]) true) (forS (Dv.opI rng1 [.ex (retM (.int 4))]) (.nm 7) (seqS (asgS 14 (opM (f2 addD) [.ex (retM (.int 1)), .ex (opM (f2 modD) [.ex (opM (f1 Dv.intD) [.ex (opM (f2 ixD) [.va 2, .ex (opM (f2 addD) [.ex (retM (.int 34)), .va 7])])]), .ex (retM (.int 7))])]) true) (seqS (asgS 15 (opM (f1 tupleD) [.ex (compM (Dv.opI rng1 [.va 3]) [17] (.nm 17) (boolM (opM (f2 (cmpD .Eq)) [.ex (opM (f2 modD) [.ex (opM (f2 addD) [.ex (opM (f1 Dv.intD) [.ex (opM (f2 ixD) [.va 2, .ex (opM (f2 addD) [.ex (retM (.int 38)), .va 7])])]), .ex (opM (f2 mulD) [.va 17, .va 17])]), .va 14]), .ex (retM (.int 0))])) (varM 17))]) true) (seqS (asgS 10 (opM (f2 modD) [.ex (opM (f1 Dv.intD) [.ex (opM (f2 ixD) [.va 2, .ex (opM (f2 addD) [.ex (retM (.int 42)), .va 7])])]), .ex (opM (f2 addD) [.va 3, .ex (retM (.int 1))])]) true) (seqS (asgS 16 (opM (f1 tupleD) [.ex (compM (Dv.opI rng2 [.va 10, .ex (opM (minL) [.va 3, .ex (opM (f2 addD) [.va 10, .ex (opM (f2 fdivD) [.va 3, .ex (opM (f2 addD) [.va 8, .ex (retM (.int 2))])])])])]) [17] (.nm 17) yesM (varM 17))]) true) (seqS (ifS (orM (notM (truM (.ex (callM Z.f_law_knots_hold [.va 9, .va 8, .va 15])))) (notM (truM (.ex (callM Z.f_law_knots_hold [.va 9, .va 8, .va 16]))))) (retS (retM (.bl false)) false) nxS) (ifS (orM (notM (truM (.ex (callM Z.f_law_is [.ex (callM Z.f_is_sure_damage [.va 3, .va 8, .va 16]), .ex (retM (.bl true))])))) (notM (truM (.ex (callM Z.f_law_is [.ex (callM Z.f_touched_knots [.va 3, .va 8, .ex (tupM [])]), .ex (tupM [])]))))) (retS (retM (.bl false)) false) nxS))))))))))))))))))
theorem kB_ok (ns : List Int) (kk : Int) (hkk : 0 ≤ kk) (x2 x3 x4 x5 x6 x7 x8 x9 x10 x11 x12 x13 x14 x15 x16 : Sl) : ∃ y2 y3 y4 y5 y6 y7 y8 y9 y10 y11 y12 y13 y14 y15 y16,
    kB Z [.val (.scr ns), .val (.int kk), x2, x3, x4, x5, x6, x7, x8, x9, x10, x11, x12, x13, x14, x15, x16, .no, .no] = .ok .nx [.val (.scr ns), .val (.int kk), y2, y3, y4, y5, y6, y7, y8, y9, y10, y11, y12, y13, y14, y15, y16, .no, .no] := by
  obtain ⟨c, hc⟩ := cell_ok (u := 5) (v := 3) (by decide) ns kk hkk
  have hc' : Z.f_law_cell [.scr ns, .int kk] = .ok (.int c) := by rw [Z.e_law_cell]; exact hc
  obtain ⟨ds, hds, hd, hdd⟩ := draws_ok c 60 (by decide)
  have hd' : Z.f_law_draws [.int c, .int 60] = .ok (lI ds) := by rw [Z.e_law_draws]; exact hdd
  obtain ⟨Dl, hL0, rfl, hLd⟩ := nats_of hd
  rw [hds] at hL0
  have s1 : (asgS 2 (callM Z.f_law_draws [.ex (callM Z.f_law_cell [.va 0, .va 1]), .ex (retM (.int 60))]) true) [.val (.scr ns), .val (.int kk), x2, x3, x4, x5, x6, x7, x8, x9, x10, x11, x12, x13, x14, x15, x16, .no, .no] = .ok .nx [.val (.scr ns), .val (.int kk), .own (lN Dl), x3, x4, x5, x6, x7, x8, x9, x10, x11, x12, x13, x14, x15, x16, .no, .no] :=
    asg_to (callM_ind [.int c, .int 60] (ev_cons (callM_of (ds := [.scr ns, .int kk]) (ev_v2 rfl rfl) rfl hc') rfl) (indep_lI _) hd') rfl
  obtain ⟨L, hL⟩ : ∃ L, L = Dl.getD 0 0 % 41 := ⟨_, rfl⟩
  obtain ⟨d, hd1⟩ : ∃ d, d = 1 + Dl.getD 21 0 % 12 := ⟨_, rfl⟩
  obtain ⟨w, hw⟩ : ∃ w, w = 1 + Dl.getD 21 0 % 7 := ⟨_, rfl⟩
  obtain ⟨row, hrow⟩ : ∃ row, row = rowN Dl L := ⟨_, rfl⟩
  have hLl : L < 41 := by rw [hL]; exact Nat.mod_lt _ (by decide)
  have hdl : d < 13 := by omega
  have hd0 : 0 < d := by omega
  have hwl : w < 11 := by omega
  have hrl : row.length = L := by rw [hrow]; unfold rowN; rw [List.length_map, List.length_range]
  have s2 : (asgS 3 (opM (f2 modD) [.ex (opM (f1 Dv.intD) [.ex (opM (f2 ixD) [.va 2, .ex (retM (.int 0))])]), .ex (retM (.int 41))]) true) [.val (.scr ns), .val (.int kk), .own (lN Dl), x3, x4, x5, x6, x7, x8, x9, x10, x11, x12, x13, x14, x15, x16, .no, .no] = .ok .nx [.val (.scr ns), .val (.int kk), .own (lN Dl), .val (.int (L : Nat)), x4, x5, x6, x7, x8, x9, x10, x11, x12, x13, x14, x15, x16, .no, .no] := by
    rw [hL]
    exact asg_to (mod_n (b := 41) (ev_cons (dr_c (j := 0) rfl (by omega)) rfl) (by decide)) rfl
  have s3 : (asgS 4 (opM (f1 tupleD) [.ex (compM (Dv.opI rng1 [.va 3]) [17] (.nm 17) yesM (opM (f2 modD) [.ex (opM (f2 mulD) [.ex (opM (f1 Dv.intD) [.ex (opM (f2 ixD) [.va 2, .ex (opM (f2 addD) [.ex (retM (.int 1)), .ex (opM (f2 modD) [.va 17, .ex (retM (.int 20))])])])]), .ex (opM (f2 addD) [.va 17, .ex (retM (.int 1))])]), .ex (retM (.int 256))]))]) true) [.val (.scr ns), .val (.int kk), .own (lN Dl), .val (.int (L : Nat)), x4, x5, x6, x7, x8, x9, x10, x11, x12, x13, x14, x15, x16, .no, .no] = .ok .nx [.val (.scr ns), .val (.int kk), .own (lN Dl), .val (.int (L : Nat)), .val (tN row), x5, x6, x7, x8, x9, x10, x11, x12, x13, x14, x15, x16, .no, .no] := by
    have q := comp1 (v := 17) (mi := Dv.opI rng1 [.va 3]) (cond := yesM) (elt := (opM (f2 modD) [.ex (opM (f2 mulD) [.ex (opM (f1 Dv.intD) [.ex (opM (f2 ixD) [.va 2, .ex (opM (f2 addD) [.ex (retM (.int 1)), .ex (opM (f2 modD) [.va 17, .ex (retM (.int 20))])])])]), .ex (opM (f2 addD) [.va 17, .ex (retM (.int 1))])]), .ex (retM (.int 256))])) (ρ := [.val (.scr ns), .val (.int kk), .own (lN Dl), .val (.int (L : Nat)), x4, x5, x6, x7, x8, x9, x10, x11, x12, x13, x14, x15, x16, .no, .no]) (List.range L) (fun _ => true) (fun p => D.int (Dl.getD (1 + p % 20) 0 * (p + 1) % 256 : Nat))
      (opI_of (ds := [.int (L : Nat)]) (ev_va rfl rfl) (rng_nn (by omega))) (by rw [List.length_range]; omega) rfl fun p hp => ⟨rfl, fun _ => mod_n (b := 256) (ev_cons (mul_n (ev_cons (int_n (ev_cons (ix_n (ev_va rfl (ev_cons (add_n (a := 1) (ev_cons rfl (ev_cons (mod_n (b := 20) (ev_va rfl rfl) (by decide)) rfl))) rfl)) (by omega)) rfl)) (ev_cons (add_n (b := 1) (ev_va rfl rfl)) rfl)) (by have := List.mem_range.mp hp; omega)) rfl) (by decide)⟩
    rw [filter_tt] at q
    have e : D.lst ((List.range L).map fun p => D.int (Dl.getD (1 + p % 20) 0 * (p + 1) % 256 : Nat)) = lN row := by
      rw [hrow, ← lst_lN]
      unfold rowN
      rw [List.map_map]
      rfl
    rw [e] at q
    exact asg_to (opM_of (ev_cons q rfl) (tup_lN _)) rfl
  have s4 : (asgS 5 (opM (f2 addD) [.ex (retM (.int 1)), .ex (opM (f2 modD) [.ex (opM (f1 Dv.intD) [.ex (opM (f2 ixD) [.va 2, .ex (retM (.int 21))])]), .ex (retM (.int 12))])]) true) [.val (.scr ns), .val (.int kk), .own (lN Dl), .val (.int (L : Nat)), .val (tN row), x5, x6, x7, x8, x9, x10, x11, x12, x13, x14, x15, x16, .no, .no] = .ok .nx [.val (.scr ns), .val (.int kk), .own (lN Dl), .val (.int (L : Nat)), .val (tN row), .val (.int (d : Nat)), x6, x7, x8, x9, x10, x11, x12, x13, x14, x15, x16, .no, .no] := by
    rw [hd1]
    exact asg_to (add_n (a := 1) (ev_cons rfl (ev_cons (mod_n (b := 12) (ev_cons (dr_c (j := 21) rfl (by omega)) rfl) (by decide)) rfl))) rfl
  have ho := order_ok Z hLl hdl hd0
  have s5 : (asgS 6 (callM Z.f_law_order [.va 3, .va 5]) true) [.val (.scr ns), .val (.int kk), .own (lN Dl), .val (.int (L : Nat)), .val (tN row), .val (.int (d : Nat)), x6, x7, x8, x9, x10, x11, x12, x13, x14, x15, x16, .no, .no] = .ok .nx [.val (.scr ns), .val (.int kk), .own (lN Dl), .val (.int (L : Nat)), .val (tN row), .val (.int (d : Nat)), .own (lN (ord L d)), x7, x8, x9, x10, x11, x12, x13, x14, x15, x16, .no, .no] :=
    asg_to (callM_ind [.int (L : Nat), .int (d : Nat)] (ev_v2 rfl rfl) (indep_lI _) ho) rfl
  have hw1 := woven_ok Z (row := row) (d := d) (by omega) hdl hd0
  have hw2 := lwoven_ok Z (row := row) (d := d) (by omega) hdl hd0
  have hu1 := unwoven_ok Z (row := row) (d := d) (by omega) hdl hd0
  have hu2 := lunwoven_ok Z (row := row) (d := d) (by omega) hdl hd0
  have wl : (wov (ord L d) row).length = L := by unfold wov; rw [List.length_map, ord_len hLl hdl hd0]
  have hu3 := unwoven_ok Z (row := wov (ord L d) row) (d := d) (by omega) hdl hd0
  have ul : (unw row d).length = L := by unfold unw; rw [lay_len, List.length_replicate, hrl]
  have hback : unw (wov (ord L d) row) d = row := by
    unfold unw
    rw [wl]
    exact lay_wov hLl hdl hd0 hrl
  rw [hback] at hu3
  rw [hrl] at hw1 hw2
  generalize hW : wov (ord L d) row = wr at *
  generalize hU : unw row d = ur at *
  have s6 := chkT1 (s := retS (retM (.bl false)) false) (show (callM Z.f_law_is [.ex (callM Z.f_woven_bytes [.va 4, .va 5]), .ex (callM Z.f_law_woven [.va 4, .va 5])]) [.val (.scr ns), .val (.int kk), .own (lN Dl), .val (.int (L : Nat)), .val (tN row), .val (.int (d : Nat)), .own (lN (ord L d)), x7, x8, x9, x10, x11, x12, x13, x14, x15, x16, .no, .no] = .ok (.bl true) [.val (.scr ns), .val (.int kk), .own (lN Dl), .val (.int (L : Nat)), .val (tN row), .val (.int (d : Nat)), .own (lN (ord L d)), x7, x8, x9, x10, x11, x12, x13, x14, x15, x16, .no, .no] from
    callM_ind [tN wr, tN wr] (ev_cons (callM_ind [tN row, .int (d : Nat)] (ev_v2 rfl rfl) (ind_tN _) hw1) (ev_cons (callM_ind [tN row, .int (d : Nat)] (ev_v2 rfl rfl) (ind_tN _) hw2) rfl)) rfl (is4n Z wr (by omega)))
  have s7 := chkT1 (s := retS (retM (.bl false)) false) (show (callM Z.f_law_is [.ex (callM Z.f_unwoven_bytes [.va 4, .va 5]), .ex (callM Z.f_law_unwoven [.va 4, .va 5])]) [.val (.scr ns), .val (.int kk), .own (lN Dl), .val (.int (L : Nat)), .val (tN row), .val (.int (d : Nat)), .own (lN (ord L d)), x7, x8, x9, x10, x11, x12, x13, x14, x15, x16, .no, .no] = .ok (.bl true) [.val (.scr ns), .val (.int kk), .own (lN Dl), .val (.int (L : Nat)), .val (tN row), .val (.int (d : Nat)), .own (lN (ord L d)), x7, x8, x9, x10, x11, x12, x13, x14, x15, x16, .no, .no] from
    callM_ind [tN ur, tN ur] (ev_cons (callM_ind [tN row, .int (d : Nat)] (ev_v2 rfl rfl) (ind_tN _) hu1) (ev_cons (callM_ind [tN row, .int (d : Nat)] (ev_v2 rfl rfl) (ind_tN _) hu2) rfl)) rfl (is4n Z ur (by omega)))
  have s8 := chkT1 (s := retS (retM (.bl false)) false) (show (callM Z.f_law_is [.ex (callM Z.f_unwoven_bytes [.ex (callM Z.f_law_woven [.va 4, .va 5]), .va 5]), .va 4]) [.val (.scr ns), .val (.int kk), .own (lN Dl), .val (.int (L : Nat)), .val (tN row), .val (.int (d : Nat)), .own (lN (ord L d)), x7, x8, x9, x10, x11, x12, x13, x14, x15, x16, .no, .no] = .ok (.bl true) [.val (.scr ns), .val (.int kk), .own (lN Dl), .val (.int (L : Nat)), .val (tN row), .val (.int (d : Nat)), .own (lN (ord L d)), x7, x8, x9, x10, x11, x12, x13, x14, x15, x16, .no, .no] from
    callM_ind [tN row, tN row] (ev_cons (callM_ind [tN wr, .int (d : Nat)] (ev_cons (callM_ind [tN row, .int (d : Nat)] (ev_v2 rfl rfl) (ind_tN _) hw2) (ev_va rfl rfl)) (ind_tN _) hu3) (ev_va rfl rfl)) rfl (is4n Z row (by omega)))
  obtain ⟨ρ1, hl1, y7, y10, y11, y12, y13, he1⟩ := for_range (v := 7) (lo := 0) (c := 1) (n := 6) (s := tB Z) (ρ := [.val (.scr ns), .val (.int kk), .own (lN Dl), .val (.int (L : Nat)), .val (tN row), .val (.int (d : Nat)), .own (lN (ord L d)), x7, x8, x9, x10, x11, x12, x13, x14, x15, x16, .no, .no])
    (fun i ρ => ∃ y7 y10 y11 y12 y13, ρ = [.val (.scr ns), .val (.int kk), .own (lN Dl), .val (.int (L : Nat)), .val (tN row), .val (.int (d : Nat)), .own (lN (ord L d)), y7, x8, x9, y10, y11, y12, y13, x14, x15, x16, .no, .no]) ⟨x7, x10, x11, x12, x13, rfl⟩ (by
      rintro i _ hi ⟨y7, y10, y11, y12, y13, rfl⟩
      rw [show (0 : Int) + (i : Int) * 1 = (i : Int) by omega]
      obtain ⟨z10, z11, z12, z13, h⟩ := t_ok Z (Dl := Dl) (L := L) (d := d) (i := i) hLl hdl hd0 hi hL0 (.val (.scr ns)) (.val (.int kk)) (.val (tN row)) x8 x9 y10 y11 y12 y13 x14 x15 x16
      exact ⟨_, .inl h, _, z10, z11, z12, z13, rfl⟩)
  subst he1
  have s9 : (asgS 8 (opM (f2 addD) [.ex (retM (.int 1)), .ex (opM (f2 modD) [.ex (opM (f1 Dv.intD) [.ex (opM (f2 ixD) [.va 2, .ex (retM (.int 21))])]), .ex (retM (.int 7))])]) true) [.val (.scr ns), .val (.int kk), .own (lN Dl), .val (.int (L : Nat)), .val (tN row), .val (.int (d : Nat)), .own (lN (ord L d)), y7, x8, x9, y10, y11, y12, y13, x14, x15, x16, .no, .no] = .ok .nx [.val (.scr ns), .val (.int kk), .own (lN Dl), .val (.int (L : Nat)), .val (tN row), .val (.int (d : Nat)), .own (lN (ord L d)), y7, .val (.int (w : Nat)), x9, y10, y11, y12, y13, x14, x15, x16, .no, .no] := by
    rw [hw]
    exact asg_to (add_n (a := 1) (ev_cons rfl (ev_cons (mod_n (b := 7) (ev_cons (dr_c (j := 21) rfl (by omega)) rfl) (by decide)) rfl))) rfl
  have ho2 := order_ok Z hLl (show w + 2 < 13 by omega) (by omega)
  have s10 : (asgS 9 (callM Z.f_law_order [.va 3, .ex (opM (f2 addD) [.va 8, .ex (retM (.int 2))])]) true) [.val (.scr ns), .val (.int kk), .own (lN Dl), .val (.int (L : Nat)), .val (tN row), .val (.int (d : Nat)), .own (lN (ord L d)), y7, .val (.int (w : Nat)), x9, y10, y11, y12, y13, x14, x15, x16, .no, .no] = .ok .nx [.val (.scr ns), .val (.int kk), .own (lN Dl), .val (.int (L : Nat)), .val (tN row), .val (.int (d : Nat)), .own (lN (ord L d)), y7, .val (.int (w : Nat)), .own (lN (ord L (w + 2))), y10, y11, y12, y13, x14, x15, x16, .no, .no] :=
    asg_to (callM_ind [.int (L : Nat), .int (w + 2 : Nat)] (ev_va rfl (ev_cons (add_n (b := 2) (ev_va rfl rfl)) rfl)) (indep_lI _) ho2) rfl
  obtain ⟨ρ2, hl2, z7, z10, z14, z15, z16, he2⟩ := for_range (v := 7) (lo := 0) (c := 1) (n := 4) (s := uB Z) (ρ := [.val (.scr ns), .val (.int kk), .own (lN Dl), .val (.int (L : Nat)), .val (tN row), .val (.int (d : Nat)), .own (lN (ord L d)), y7, .val (.int (w : Nat)), .own (lN (ord L (w + 2))), y10, y11, y12, y13, x14, x15, x16, .no, .no])
    (fun i ρ => ∃ z7 z10 z14 z15 z16, ρ = [.val (.scr ns), .val (.int kk), .own (lN Dl), .val (.int (L : Nat)), .val (tN row), .val (.int (d : Nat)), .own (lN (ord L d)), z7, .val (.int (w : Nat)), .own (lN (ord L (w + 2))), z10, y11, y12, y13, z14, z15, z16, .no, .no]) ⟨y7, y10, x14, x15, x16, rfl⟩ (by
      rintro i _ hi ⟨z7, z10, z14, z15, z16, rfl⟩
      rw [show (0 : Int) + (i : Int) * 1 = (i : Int) by omega]
      obtain ⟨t10, t14, t15, t16, h⟩ := u_ok Z (Dl := Dl) (L := L) (w := w) (i := i) hLl hwl hi hL0 (.val (.scr ns)) (.val (.int kk)) (.val (tN row)) (.val (.int (d : Nat))) (.own (lN (ord L d))) z10 y11 y12 y13 z14 z15 z16
      exact ⟨_, .inl h, _, t10, t14, t15, t16, rfl⟩)
  subst he2
  exact ⟨_, _, _, _, _, _, _, _, _, _, _, _, _, _, _, (seq_nx s1).trans ((seq_nx s2).trans ((seq_nx s3).trans ((seq_nx s4).trans ((seq_nx s5).trans ((seq_nx s6).trans ((seq_nx s7).trans ((seq_nx s8).trans
    ((seq_nx ((forI (ds := [.int 6]) rfl (rng_nat (n := 6) (by omega))).trans hl1)).trans ((seq_nx s9).trans ((seq_nx s10).trans ((forI (ds := [.int 4]) rfl (rng_nat (n := 4) (by omega))).trans hl2)))))))))))⟩
theorem law_ok (ns : List Int) : Z.f_law [.scr ns] = .ok (.bl true) := by
  obtain ⟨ρ', hl, z1, z2, z3, z4, z5, z6, z7, z8, z9, z10, z11, z12, z13, z14, z15, z16, he⟩ := for_range (v := 1) (lo := 0) (c := 1) (n := 3) (s := kB Z) (ρ := [.val (.scr ns), .no, .no, .no, .no, .no, .no, .no, .no, .no, .no, .no, .no, .no, .no, .no, .no, .no, .no])
    (fun i ρ => ∃ z1 z2 z3 z4 z5 z6 z7 z8 z9 z10 z11 z12 z13 z14 z15 z16, ρ = [.val (.scr ns), z1, z2, z3, z4, z5, z6, z7, z8, z9, z10, z11, z12, z13, z14, z15, z16, .no, .no]) ⟨_, _, _, _, _, _, _, _, _, _, _, _, _, _, _, _, rfl⟩ (by
      rintro i _ hi ⟨s1, s2, s3, s4, s5, s6, s7, s8, s9, s10, s11, s12, s13, s14, s15, s16, rfl⟩
      obtain ⟨y2, y3, y4, y5, y6, y7, y8, y9, y10, y11, y12, y13, y14, y15, y16, h⟩ := kB_ok Z ns (0 + (i : Int) * 1) (by omega) s2 s3 s4 s5 s6 s7 s8 s9 s10 s11 s12 s13 s14 s15 s16
      exact ⟨_, .inl h, _, y2, y3, y4, y5, y6, y7, y8, y9, y10, y11, y12, y13, y14, y15, y16, rfl⟩)
  rw [Z.e_law]
  refine run_of (ρ := ρ') ?_
  refine (seq_nx ((forI (ds := [.int 3]) rfl (rng_nat (n := 3) (by omega))).trans hl)).trans ?_
  rfl
end
theorem plain (ns : List Int) (h : ns.length ≤ 63) (hb : ∀ z ∈ ns, Builtin.Int.intBits z ≤ 1048576) : semOf T18 q_law [.scr ns] = .ok (.bl true) := law_ok pr ns
end K40
namespace K40
open PySem PySem.Spec PyProof.Rows L2 Dv
theorem plain_all (ns : List Int) (h : ns.length ≤ 63) (hb : ∀ z ∈ ns, Builtin.Int.intBits z ≤ 1048576) : semOf T18 q_law [.scr ns] = .ok (.bl true) := plain ns h hb
theorem sq_law_draws : FnScope q_law_draws.N (q_law_draws.N.take 2) (defScope q_law_draws.st) := ⟨rfl, rfl, rfl, by decide +kernel, rfl, by decide +kernel, by decide +kernel⟩
theorem sq_law_order : FnScope q_law_order.N (q_law_order.N.take 2) (defScope q_law_order.st) := ⟨rfl, rfl, rfl, by decide +kernel, rfl, by decide +kernel, by decide +kernel⟩
theorem sq_law_cell : FnScope q_law_cell.N (q_law_cell.N.take 2) (defScope q_law_cell.st) := ⟨rfl, rfl, rfl, by decide +kernel, rfl, by decide +kernel, by decide +kernel⟩
theorem sq_law_is_integer : FnScope q_law_is_integer.N (q_law_is_integer.N.take 1) (defScope q_law_is_integer.st) := ⟨rfl, rfl, rfl, by decide +kernel, rfl, by decide +kernel, by decide +kernel⟩
theorem sq_law_is : FnScope q_law_is.N (q_law_is.N.take 2) (defScope q_law_is.st) := ⟨rfl, rfl, rfl, by decide +kernel, rfl, by decide +kernel, by decide +kernel⟩
theorem sq_woven_places : FnScope q_woven_places.N (q_woven_places.N.take 2) (defScope q_woven_places.st) := ⟨rfl, rfl, rfl, by decide +kernel, rfl, by decide +kernel, by decide +kernel⟩
theorem sq_touched_places : FnScope q_touched_places.N (q_touched_places.N.take 4) (defScope q_touched_places.st) := ⟨rfl, rfl, rfl, by decide +kernel, rfl, by decide +kernel, by decide +kernel⟩
theorem sq_woven_bytes : FnScope q_woven_bytes.N (q_woven_bytes.N.take 2) (defScope q_woven_bytes.st) := ⟨rfl, rfl, rfl, by decide +kernel, rfl, by decide +kernel, by decide +kernel⟩
theorem sq_law_woven : FnScope q_law_woven.N (q_law_woven.N.take 2) (defScope q_law_woven.st) := ⟨rfl, rfl, rfl, by decide +kernel, rfl, by decide +kernel, by decide +kernel⟩
theorem sq_unwoven_bytes : FnScope q_unwoven_bytes.N (q_unwoven_bytes.N.take 2) (defScope q_unwoven_bytes.st) := ⟨rfl, rfl, rfl, by decide +kernel, rfl, by decide +kernel, by decide +kernel⟩
theorem sq_law_unwoven : FnScope q_law_unwoven.N (q_law_unwoven.N.take 2) (defScope q_law_unwoven.st) := ⟨rfl, rfl, rfl, by decide +kernel, rfl, by decide +kernel, by decide +kernel⟩
theorem sq_law_knots : FnScope q_law_knots.N (q_law_knots.N.take 3) (defScope q_law_knots.st) := ⟨rfl, rfl, rfl, by decide +kernel, rfl, by decide +kernel, by decide +kernel⟩
theorem sq_touched_knots : FnScope q_touched_knots.N (q_touched_knots.N.take 3) (defScope q_touched_knots.st) := ⟨rfl, rfl, rfl, by decide +kernel, rfl, by decide +kernel, by decide +kernel⟩
theorem sq_is_sure_damage : FnScope q_is_sure_damage.N (q_is_sure_damage.N.take 3) (defScope q_is_sure_damage.st) := ⟨rfl, rfl, rfl, by decide +kernel, rfl, by decide +kernel, by decide +kernel⟩
theorem sq_law_knots_hold : FnScope q_law_knots_hold.N (q_law_knots_hold.N.take 3) (defScope q_law_knots_hold.st) := ⟨rfl, rfl, rfl, by decide +kernel, rfl, by decide +kernel, by decide +kernel⟩
theorem sq_law : FnScope q_law.N (q_law.N.take 1) (defScope q_law.st) := ⟨rfl, rfl, rfl, by decide +kernel, rfl, by decide +kernel, by decide +kernel⟩
abbrev fn : List He.DefD := [q_law_draws.d, q_law_order.d, q_law_cell.d, q_law_is_integer.d, q_law_is.d, q_woven_places.d, q_touched_places.d, q_woven_bytes.d, q_law_woven.d, q_unwoven_bytes.d, q_law_unwoven.d, q_law_knots.d, q_touched_knots.d, q_is_sure_damage.d, q_law_knots_hold.d, q_law.d]
abbrev fa : List He.Fa := [.glo "_law_draws", .glo "_law_order", .glo "_law_cell", .glo "_law_is_integer", .glo "_law_is", .glo "woven_places", .glo "touched_places", .glo "woven_bytes", .glo "_law_woven", .glo "unwoven_bytes", .glo "_law_unwoven", .glo "_law_knots", .glo "touched_knots", .glo "is_sure_damage", .glo "_law_knots_hold", .glo "law", .free "abs", .free "all", .free "bool", .free "int", .free "isinstance", .free "len", .free "min", .free "range", .free "sorted", .free "str", .free "tuple", .free "zip"]
abbrev Rr : PySem.W.OpenRow := PySem.W.OpenLaw.row PySem.Challenge.rw_psaltery_k40_whole_weaves_and_bursts
abbrev cns : List (Str × D) := T0.cons
abbrev tfs0 : List He.Defn := [("_law_draws", none), ("_law_order", none), ("_law_cell", none), ("_law_is_integer", none), ("_law_is", none), ("woven_places", none), ("touched_places", none), ("woven_bytes", none), ("_law_woven", none), ("unwoven_bytes", none), ("_law_unwoven", none), ("_law_knots", none), ("touched_knots", none), ("is_sure_damage", none), ("_law_knots_hold", none), ("law", none)]
abbrev tfs : List He.Defn := tfs0
def exk (K : PySem.W.Frag) : Bool := conAll cns K && excsB K Rr.prog.main.file T0.excs
abbrev hk : PySem.W.Hook := hookZ 6 fa fn tfs exk
def ob (s : PySem.W.SharedT) : He.AlX := obsZ 6 fa fn tfs exk (HandSHeadRun.getT s)
theorem ob_eq (s : PySem.W.SharedT) : ob s = hk.obs s.abs := obsZ_eq (HandSHeadRun.getT_eq s)
abbrev loose0 : List Str := ["woven_places", "woven_bytes", "unwoven_bytes", "touched_places", "touched_knots", "is_sure_damage", "_law_cell", "_law_draws", "_law_is_integer", "_law_is", "_law_order", "_law_woven", "_law_unwoven", "_law_knots", "_law_knots_hold"]
abbrev loose : List Str := loose0
theorem run (w : World) : HandSHeadRun.RunEq Rr (PySem.W.view Rr.prog [17]) hk ob 2000 loose w := by
  intro os
  kernel_rfl
theorem facts {P : Program} {w : World} {K : PySem.W.Frag} {h : Heap} {mg : Str → Option Value} {f : Addr} (X : K.In h) (G : h.Ns mainGlobals mg) (hfa : mg ("law" : Str) = some (.ref f)) (c : He.SaysD fa fn K) (cc : ∀ q ∈ cns, conIn K q = true) (ce : ExcOk P K mg T0.excs) :
    ∃ fd : FuncData, (∀ (s : Shared) (v : Value), BindsTo s fd ⟨[v], []⟩ [("script", v)]) ∧ ∀ base : Heap, K.In base → base.Ns mainGlobals mg → (∀ r ∈ tfs.map (He.cT K), GxR.TabB base mg r.1 r.2) → FnOk P w K mg base (L2N.CX P w) 19 f fd ["script"] (spF K (lawXR (ExcR mg T0.excs) (tfs.map (He.cT K))) 1 (semOf T18 q_law)) := by
  obtain ⟨fd_q_law_draws, F_q_law_draws⟩ := c.def_ 0 (d := q_law_draws.d) rfl
  obtain ⟨fd_q_law_order, F_q_law_order⟩ := c.def_ 1 (d := q_law_order.d) rfl
  obtain ⟨fd_q_law_cell, F_q_law_cell⟩ := c.def_ 2 (d := q_law_cell.d) rfl
  obtain ⟨fd_q_law_is_integer, F_q_law_is_integer⟩ := c.def_ 3 (d := q_law_is_integer.d) rfl
  obtain ⟨fd_q_law_is, F_q_law_is⟩ := c.def_ 4 (d := q_law_is.d) rfl
  obtain ⟨fd_q_woven_places, F_q_woven_places⟩ := c.def_ 5 (d := q_woven_places.d) rfl
  obtain ⟨fd_q_touched_places, F_q_touched_places⟩ := c.def_ 6 (d := q_touched_places.d) rfl
  obtain ⟨fd_q_woven_bytes, F_q_woven_bytes⟩ := c.def_ 7 (d := q_woven_bytes.d) rfl
  obtain ⟨fd_q_law_woven, F_q_law_woven⟩ := c.def_ 8 (d := q_law_woven.d) rfl
  obtain ⟨fd_q_unwoven_bytes, F_q_unwoven_bytes⟩ := c.def_ 9 (d := q_unwoven_bytes.d) rfl
  obtain ⟨fd_q_law_unwoven, F_q_law_unwoven⟩ := c.def_ 10 (d := q_law_unwoven.d) rfl
  obtain ⟨fd_q_law_knots, F_q_law_knots⟩ := c.def_ 11 (d := q_law_knots.d) rfl
  obtain ⟨fd_q_touched_knots, F_q_touched_knots⟩ := c.def_ 12 (d := q_touched_knots.d) rfl
  obtain ⟨fd_q_is_sure_damage, F_q_is_sure_damage⟩ := c.def_ 13 (d := q_is_sure_damage.d) rfl
  obtain ⟨fd_q_law_knots_hold, F_q_law_knots_hold⟩ := c.def_ 14 (d := q_law_knots_hold.d) rfl
  obtain ⟨fd, F⟩ := c.def_ 15 (d := q_law.d) rfl
  have e := hfa.symm.trans (He.glo_ok X G (c.fact 15 (f := .glo "law") rfl))
  cases e
  have b := FunD.bindsA (ps := ["script"]) F fun _ _ _ _ _ _ us hl => match us, hl with | [_], _ => rfl
  refine ⟨fd, fun s v => b s [v] rfl, fun base _ _ hb => ?_⟩
  have D_q_law_draws : DfOk K mg base (lawXR (ExcR mg T0.excs) (tfs.map (He.cT K))) q_law_draws := ⟨⟨_, fd_q_law_draws, He.glo_ok X G (c.fact 0 (f := .glo "_law_draws") rfl), code_of (p := ("_law_draws", none)) F_q_law_draws (List.mem_of_getElem? (i := 0) rfl) hb, F_q_law_draws, F_q_law_draws.bindsN fun _ _ _ _ _ _ us hl => match us, hl with | [_, _], _ => rfl⟩, sq_law_draws, rfl⟩
  have D_q_law_order : DfOk K mg base (lawXR (ExcR mg T0.excs) (tfs.map (He.cT K))) q_law_order := ⟨⟨_, fd_q_law_order, He.glo_ok X G (c.fact 1 (f := .glo "_law_order") rfl), code_of (p := ("_law_order", none)) F_q_law_order (List.mem_of_getElem? (i := 1) rfl) hb, F_q_law_order, F_q_law_order.bindsN fun _ _ _ _ _ _ us hl => match us, hl with | [_, _], _ => rfl⟩, sq_law_order, rfl⟩
  have D_q_law_cell : DfOk K mg base (lawXR (ExcR mg T0.excs) (tfs.map (He.cT K))) q_law_cell := ⟨⟨_, fd_q_law_cell, He.glo_ok X G (c.fact 2 (f := .glo "_law_cell") rfl), code_of (p := ("_law_cell", none)) F_q_law_cell (List.mem_of_getElem? (i := 2) rfl) hb, F_q_law_cell, F_q_law_cell.bindsN fun _ _ _ _ _ _ us hl => match us, hl with | [_, _], _ => rfl⟩, sq_law_cell, rfl⟩
  have D_q_law_is_integer : DfOk K mg base (lawXR (ExcR mg T0.excs) (tfs.map (He.cT K))) q_law_is_integer := ⟨⟨_, fd_q_law_is_integer, He.glo_ok X G (c.fact 3 (f := .glo "_law_is_integer") rfl), code_of (p := ("_law_is_integer", none)) F_q_law_is_integer (List.mem_of_getElem? (i := 3) rfl) hb, F_q_law_is_integer, F_q_law_is_integer.bindsN fun _ _ _ _ _ _ us hl => match us, hl with | [_], _ => rfl⟩, sq_law_is_integer, rfl⟩
  have D_q_law_is : DfOk K mg base (lawXR (ExcR mg T0.excs) (tfs.map (He.cT K))) q_law_is := ⟨⟨_, fd_q_law_is, He.glo_ok X G (c.fact 4 (f := .glo "_law_is") rfl), code_of (p := ("_law_is", none)) F_q_law_is (List.mem_of_getElem? (i := 4) rfl) hb, F_q_law_is, F_q_law_is.bindsN fun _ _ _ _ _ _ us hl => match us, hl with | [_, _], _ => rfl⟩, sq_law_is, rfl⟩
  have D_q_woven_places : DfOk K mg base (lawXR (ExcR mg T0.excs) (tfs.map (He.cT K))) q_woven_places := ⟨⟨_, fd_q_woven_places, He.glo_ok X G (c.fact 5 (f := .glo "woven_places") rfl), code_of (p := ("woven_places", none)) F_q_woven_places (List.mem_of_getElem? (i := 5) rfl) hb, F_q_woven_places, F_q_woven_places.bindsN fun _ _ _ _ _ _ us hl => match us, hl with | [_, _], _ => rfl⟩, sq_woven_places, rfl⟩
  have D_q_touched_places : DfOk K mg base (lawXR (ExcR mg T0.excs) (tfs.map (He.cT K))) q_touched_places := ⟨⟨_, fd_q_touched_places, He.glo_ok X G (c.fact 6 (f := .glo "touched_places") rfl), code_of (p := ("touched_places", none)) F_q_touched_places (List.mem_of_getElem? (i := 6) rfl) hb, F_q_touched_places, F_q_touched_places.bindsN fun _ _ _ _ _ _ us hl => match us, hl with | [_, _, _, _], _ => rfl⟩, sq_touched_places, rfl⟩
  have D_q_woven_bytes : DfOk K mg base (lawXR (ExcR mg T0.excs) (tfs.map (He.cT K))) q_woven_bytes := ⟨⟨_, fd_q_woven_bytes, He.glo_ok X G (c.fact 7 (f := .glo "woven_bytes") rfl), code_of (p := ("woven_bytes", none)) F_q_woven_bytes (List.mem_of_getElem? (i := 7) rfl) hb, F_q_woven_bytes, F_q_woven_bytes.bindsN fun _ _ _ _ _ _ us hl => match us, hl with | [_, _], _ => rfl⟩, sq_woven_bytes, rfl⟩
  have D_q_law_woven : DfOk K mg base (lawXR (ExcR mg T0.excs) (tfs.map (He.cT K))) q_law_woven := ⟨⟨_, fd_q_law_woven, He.glo_ok X G (c.fact 8 (f := .glo "_law_woven") rfl), code_of (p := ("_law_woven", none)) F_q_law_woven (List.mem_of_getElem? (i := 8) rfl) hb, F_q_law_woven, F_q_law_woven.bindsN fun _ _ _ _ _ _ us hl => match us, hl with | [_, _], _ => rfl⟩, sq_law_woven, rfl⟩
  have D_q_unwoven_bytes : DfOk K mg base (lawXR (ExcR mg T0.excs) (tfs.map (He.cT K))) q_unwoven_bytes := ⟨⟨_, fd_q_unwoven_bytes, He.glo_ok X G (c.fact 9 (f := .glo "unwoven_bytes") rfl), code_of (p := ("unwoven_bytes", none)) F_q_unwoven_bytes (List.mem_of_getElem? (i := 9) rfl) hb, F_q_unwoven_bytes, F_q_unwoven_bytes.bindsN fun _ _ _ _ _ _ us hl => match us, hl with | [_, _], _ => rfl⟩, sq_unwoven_bytes, rfl⟩
  have D_q_law_unwoven : DfOk K mg base (lawXR (ExcR mg T0.excs) (tfs.map (He.cT K))) q_law_unwoven := ⟨⟨_, fd_q_law_unwoven, He.glo_ok X G (c.fact 10 (f := .glo "_law_unwoven") rfl), code_of (p := ("_law_unwoven", none)) F_q_law_unwoven (List.mem_of_getElem? (i := 10) rfl) hb, F_q_law_unwoven, F_q_law_unwoven.bindsN fun _ _ _ _ _ _ us hl => match us, hl with | [_, _], _ => rfl⟩, sq_law_unwoven, rfl⟩
  have D_q_law_knots : DfOk K mg base (lawXR (ExcR mg T0.excs) (tfs.map (He.cT K))) q_law_knots := ⟨⟨_, fd_q_law_knots, He.glo_ok X G (c.fact 11 (f := .glo "_law_knots") rfl), code_of (p := ("_law_knots", none)) F_q_law_knots (List.mem_of_getElem? (i := 11) rfl) hb, F_q_law_knots, F_q_law_knots.bindsN fun _ _ _ _ _ _ us hl => match us, hl with | [_, _, _], _ => rfl⟩, sq_law_knots, rfl⟩
  have D_q_touched_knots : DfOk K mg base (lawXR (ExcR mg T0.excs) (tfs.map (He.cT K))) q_touched_knots := ⟨⟨_, fd_q_touched_knots, He.glo_ok X G (c.fact 12 (f := .glo "touched_knots") rfl), code_of (p := ("touched_knots", none)) F_q_touched_knots (List.mem_of_getElem? (i := 12) rfl) hb, F_q_touched_knots, F_q_touched_knots.bindsN fun _ _ _ _ _ _ us hl => match us, hl with | [_, _, _], _ => rfl⟩, sq_touched_knots, rfl⟩
  have D_q_is_sure_damage : DfOk K mg base (lawXR (ExcR mg T0.excs) (tfs.map (He.cT K))) q_is_sure_damage := ⟨⟨_, fd_q_is_sure_damage, He.glo_ok X G (c.fact 13 (f := .glo "is_sure_damage") rfl), code_of (p := ("is_sure_damage", none)) F_q_is_sure_damage (List.mem_of_getElem? (i := 13) rfl) hb, F_q_is_sure_damage, F_q_is_sure_damage.bindsN fun _ _ _ _ _ _ us hl => match us, hl with | [_, _, _], _ => rfl⟩, sq_is_sure_damage, rfl⟩
  have D_q_law_knots_hold : DfOk K mg base (lawXR (ExcR mg T0.excs) (tfs.map (He.cT K))) q_law_knots_hold := ⟨⟨_, fd_q_law_knots_hold, He.glo_ok X G (c.fact 14 (f := .glo "_law_knots_hold") rfl), code_of (p := ("_law_knots_hold", none)) F_q_law_knots_hold (List.mem_of_getElem? (i := 14) rfl) hb, F_q_law_knots_hold, F_q_law_knots_hold.bindsN fun _ _ _ _ _ _ us hl => match us, hl with | [_, _, _], _ => rfl⟩, sq_law_knots_hold, rfl⟩
  have t0 : TabOk P w K mg base (lawXR (ExcR mg T0.excs) (tfs.map (He.cT K))) T0 0 := by
    refine ⟨fun e he => (by cases he), fun e he => (by cases he), ce, rfl, fun q hq => ?_, fun x hx => ?_⟩
    · cases hq
    · simp only [T0, List.mem_cons, List.not_mem_nil, or_false] at hx
      rcases hx with rfl | rfl | rfl | rfl | rfl | rfl | rfl | rfl | rfl | rfl | rfl | rfl
      · exact He.free_ok X G (c.fact 16 (f := .free "abs") rfl)
      · exact He.free_ok X G (c.fact 17 (f := .free "all") rfl)
      · exact He.free_ok X G (c.fact 18 (f := .free "bool") rfl)
      · exact He.free_ok X G (c.fact 19 (f := .free "int") rfl)
      · exact He.free_ok X G (c.fact 20 (f := .free "isinstance") rfl)
      · exact He.free_ok X G (c.fact 21 (f := .free "len") rfl)
      · exact He.free_ok X G (c.fact 22 (f := .free "min") rfl)
      · exact He.free_ok X G (c.fact 23 (f := .free "range") rfl)
      · exact He.free_ok X G (c.fact 24 (f := .free "sorted") rfl)
      · exact He.free_ok X G (c.fact 25 (f := .free "str") rfl)
      · exact He.free_ok X G (c.fact 26 (f := .free "tuple") rfl)
      · exact He.free_ok X G (c.fact 27 (f := .free "zip") rfl)
  have th : TabOk P w K mg base (lawXR (ExcR mg T0.excs) (tfs.map (He.cT K))) (mkTabH T0 hs) (0 + 0) := t0
  have tk : TabOk P w K mg base (lawXR (ExcR mg T0.excs) (tfs.map (He.cT K))) (mkTab (mkTabH T0 hs) qs) (0 + 0 + 18) := tab_ok qs _ _ (mkTabH_hot hs T0 rfl) th fun q hq => by
    simp only [qs, List.mem_cons, List.not_mem_nil, or_false] at hq
    rcases hq with rfl | rfl | rfl | rfl | rfl | rfl | rfl | rfl | rfl | rfl | rfl | rfl | rfl | rfl | rfl | rfl | rfl | rfl
    · exact D_q_law_draws
    · exact D_q_law_order
    · exact D_q_law_cell
    · exact D_q_law_is_integer
    · exact D_q_law_is
    · exact D_q_law_is
    · exact D_q_law_is
    · exact D_q_law_is
    · exact D_q_woven_places
    · exact D_q_touched_places
    · exact D_q_woven_bytes
    · exact D_q_law_woven
    · exact D_q_unwoven_bytes
    · exact D_q_law_unwoven
    · exact D_q_law_knots
    · exact D_q_touched_knots
    · exact D_q_is_sure_damage
    · exact D_q_law_knots_hold
  exact sem_ok (T := T18) (k := 18) F sq_law rfl (code_of (p := ("law", none)) F (List.mem_of_getElem? (i := 15) rfl) hb) (by rw [← tab_eq]; exact mkTab_hot qs _ (mkTabH_hot hs T0 rfl)) (by rw [← tab_eq]; exact tk)
end K40
open PySem PySem.W PySem.Calls PyProof.Rows
theorem PySem.Challenge.cw_psaltery_k40_whole_weaves_and_bursts_holds : PySem.Challenge.rw_psaltery_k40_whole_weaves_and_bursts.Holds := by
  w_on; o_law
  refine HandSHeadRun.head_any (r := OpenLaw.row PySem.Challenge.rw_psaltery_k40_whole_weaves_and_bursts) (q := view (OpenLaw.row PySem.Challenge.rw_psaltery_k40_whole_weaves_and_bursts).prog [17]) (H := K40.hk) (ob := K40.ob) (M := 2000) (loose := K40.loose) (d := HandSHeadRun.topDef (OpenLaw.row PySem.Challenge.rw_psaltery_k40_whole_weaves_and_bursts).prog 17) (kwd := []) K40.ob_eq
    (by kernel_rfl) (fun s => by kernel_rfl) K40.run (by kernel_rfl) (by kernel_rfl) (by kernel_rfl) (by rfl) (by first | assumption | decide +kernel) (by decide +kernel) ⟨rfl, rfl, rfl, rfl, rfl, by decide +kernel⟩ ?hw ?hc
  case hw => w_witness2
  case hc =>
    refine Dv.walk_ofT (l := PySem.Challenge.rw_psaltery_k40_whole_weaves_and_bursts) (n := 63) (k := 19) (x := "script") rfl (by decide) (by kernel_rfl) ⟨rfl, by decide, by decide⟩ ?F
    intro w mg fa h Y G hmg0
    obtain ⟨K, KX, cx⟩ := Y
    have hmg : mg ("law" : PySem.Str) = some (.ref fa) := by
      have e : (HandSHeadRun.topDef (OpenLaw.row PySem.Challenge.rw_psaltery_k40_whole_weaves_and_bursts).prog 17).name = ("law" : PySem.Str) := by kernel_rfl
      rw [← e]
      exact hmg0
    obtain ⟨fd, hb, hF⟩ := K40.facts (P := (PySem.Challenge.rw_psaltery_k40_whole_weaves_and_bursts).prog) (w := w) KX G hmg cx.t.d (Dv.conAll_ok (Bool.and_eq_true_iff.mp cx.more).1) (Dv.excsB_ok (prog := (PySem.Challenge.rw_psaltery_k40_whole_weaves_and_bursts).prog) KX G (Bool.and_eq_true_iff.mp cx.more).2 (by kernel_rfl))
    exact ⟨K, fd, _, _, _, KX, hb, K40.plain_all, Dv.tabs_empty cx, Dv.tabs_out cx, Dv.tabs_hd cx KX, hF⟩
