import PyProof.Rows.All
import Wide.All
import OpenK.AllK
import Wide.FinOn
import HandS.ForMost
import HandS.Exc
import HandS.WordsExc
import HandS.Zip
import HandS.Conv
import HandS.TupAny
import HandS.TupMul
import HandS.Flow
import HandS.Walk
import HandS.Style
import HandS.Defaults
import HandS.HeadEnd
import HandS.HeadHook2
import HandS.Head2
import HandS.WideBits
import HandS.ExcOwn
import HandS.Deep
import HandS.CallSlots
import HandS.Text
import HandS.SortInts
import HandS.IsInst
import KE.KTupSum
import KE.KSortedM
import HandS.EndBits
import KE.BitLaws
import KE.OsArith
import KE.KEqSeq
import KE.KEqDeep
import KE.KBits
import KE.KStateDown
import HandS.Head0
import HandS.Head1
import PySem.Challenge.RW_psaltery_k02_whole_sums_that_tell_change
set_option Elab.async false
set_option linter.all false
set_option maxRecDepth 100000
set_option maxHeartbeats 0
/-! A functional reading of Python defs over plain data: slots, results, and the judgement that links a syntax tree with such a function. -/
namespace Dv
open PySem L2

abbrev Frg := PySem.W.Frag
/-- plain data. scr: the law's script; dic: keys and values in order -/
inductive D where
  | non | bl (b : Bool) | int (i : Int) | str (s : Str) | tup (xs : List D) | lst (xs : List D) | dic (ks : List L2.Key) (xs : List D) | scr (ns : List Int)
/-- an exception as data: its class by name, its fields -/
structure Exn where
  cls : Str
  fs : List (Str × D)
/-- a slot: nothing, a value that nobody changes, a list (a dict) of the def's own -/
inductive Sl where
  | no | val (d : D) | own (d : D)
abbrev En := List Sl
/-- how a piece of code ends -/
inductive R (α : Type) where
  | ok (a : α) (ρ : En) | exc (x : Exn) (ρ : En) | bad
abbrev M (α : Type) := En → R α
def R.bind {α β : Type} (r : R α) (f : α → M β) : R β := match r with
  | .ok a ρ => f a ρ
  | .exc x ρ => .exc x ρ
  | .bad => .bad
@[simp] theorem R.bind_ok {α β : Type} (a : α) (ρ : En) (f : α → M β) : R.bind (.ok a ρ) f = f a ρ := rfl
@[simp] theorem R.bind_exc {α β : Type} (x : Exn) (ρ : En) (f : α → M β) : R.bind (.exc x ρ) f = .exc x ρ := rfl
@[simp] theorem R.bind_bad {α β : Type} (f : α → M β) : R.bind .bad f = .bad := rfl
/-- a def's result, by its arguments -/
inductive Fr where
  | ok (d : D) | exc (x : Exn) | bad
abbrev Fn := List D → Fr

/-! ### lists within data -/
mutual
def pure? : D → Bool
  | .lst _ => false
  | .dic _ _ => false
  | .scr _ => false
  | .tup ds => pureAll? ds
  | _ => true
def pureAll? : List D → Bool
  | [] => true
  | d :: ds => pure? d && pureAll? ds
end
def isMut : D → Bool
  | .lst _ => true
  | .dic _ _ => true
  | _ => false
/-- nothing in it but its own outermost list may change -/
def indep : D → Bool
  | .lst ds => pureAll? ds
  | .dic _ ds => pureAll? ds
  | d => pure? d

/-! ### data in an abstract heap -/
mutual
inductive Rp (K : Frg) (H : Hp) : V → D → Prop
  | non : Rp K H .non .non
  | bl (b : Bool) : Rp K H (.bl b) (.bl b)
  | int (i : Int) : Rp K H (.int i) (.int i)
  | str (x : Str) : Rp K H (.str x) (.str x)
  | lst {a : Addr} {xs : List V} {ds : List D} : H a = some (.lst xs) → RpAll K H xs ds → Rp K H (.ref a) (.lst ds)
  | tup {a : Addr} {xs : List V} {ds : List D} : SqT K H a xs → RpAll K H xs ds → Rp K H (.ref a) (.tup ds)
  | dic {a : Addr} {ks : List L2.Key} {xs : List V} {ds : List D} : H a = some (.dK (ks.zip xs)) → ks.length = xs.length → RpAll K H xs ds → Rp K H (.ref a) (.dic ks ds)
  | scr {a : Addr} {ns : List Int} : SqL K H a (ns.map V.int) → Rp K H (.ref a) (.scr ns)
inductive RpAll (K : Frg) (H : Hp) : List V → List D → Prop
  | nil : RpAll K H [] []
  | cons {v : V} {vs : List V} {d : D} {ds : List D} : Rp K H v d → RpAll K H vs ds → RpAll K H (v :: vs) (d :: ds)
end
theorem sqT_up {K : Frg} {H H' : Hp} (e : Same H H') {a : Addr} {xs : List V} (h : SqT K H a xs) : SqT K H' a xs := by
  rcases h with (h | ⟨o, h⟩) | h
  · exact .inl (.inl (e _ _ h))
  · exact .inl (.inr ⟨o, e _ _ h⟩)
  · exact .inr h
theorem rpx {K : Frg} {H H' : Hp} (e : Same H H') : (∀ v d, Rp K H v d → Rp K H' v d) ∧ (∀ vs ds, RpAll K H vs ds → RpAll K H' vs ds) := by
  refine ⟨fun v d h => ?_, fun vs ds h => ?_⟩
  · exact Rp.rec (motive_1 := fun v d _ => Rp K H' v d) (motive_2 := fun vs ds _ => RpAll K H' vs ds) .non .bl .int .str (fun h _ ih => .lst (e _ _ h) ih) (fun h _ ih => .tup (sqT_up e h) ih) (fun h l _ ih => .dic (e _ _ h) l ih) (fun h => .scr (e.seq h)) .nil (fun _ _ a b => .cons a b) h
  · exact RpAll.rec (motive_1 := fun v d _ => Rp K H' v d) (motive_2 := fun vs ds _ => RpAll K H' vs ds) .non .bl .int .str (fun h _ ih => .lst (e _ _ h) ih) (fun h _ ih => .tup (sqT_up e h) ih) (fun h l _ ih => .dic (e _ _ h) l ih) (fun h => .scr (e.seq h)) .nil (fun _ _ a b => .cons a b) h
theorem Rp.up {K : Frg} {H H' : Hp} {v : V} {d : D} (h : Rp K H v d) (e : Same H H') : Rp K H' v d := (rpx e).1 v d h
theorem RpAll.up {K : Frg} {H H' : Hp} {v : List V} {d : List D} (h : RpAll K H v d) (e : Same H H') : RpAll K H' v d := (rpx e).2 v d h
theorem RpAll.length {K : Frg} {H : Hp} : ∀ {vs : List V} {ds : List D}, RpAll K H vs ds → vs.length = ds.length
  | _, _, .nil => rfl
  | _, _, .cons _ t => by rw [List.length_cons, List.length_cons, RpAll.length t]
theorem RpAll.get {K : Frg} {H : Hp} : ∀ {vs : List V} {ds : List D} {i : Nat} {d : D}, RpAll K H vs ds → ds[i]? = some d → ∃ v, vs[i]? = some v ∧ Rp K H v d
  | _, _, i, d, .nil, e => by simp at e
  | _, _, 0, d, .cons r _, e => by simp at e; subst e; exact ⟨_, rfl, r⟩
  | _, _, i + 1, d, .cons _ t, e => by
    obtain ⟨v, h1, h2⟩ := RpAll.get (i := i) (d := d) t (by simpa using e)
    exact ⟨v, by simpa using h1, h2⟩
theorem RpAll.get' {K : Frg} {H : Hp} : ∀ {vs : List V} {ds : List D} {i : Nat} {v : V}, RpAll K H vs ds → vs[i]? = some v → ∃ d, ds[i]? = some d ∧ Rp K H v d
  | _, _, i, d, .nil, e => by simp at e
  | _, _, 0, d, .cons r _, e => by simp at e; subst e; exact ⟨_, rfl, r⟩
  | _, _, i + 1, v, .cons _ t, e => by
    obtain ⟨d, h1, h2⟩ := RpAll.get' (i := i) (v := v) t (by simpa using e)
    exact ⟨d, by simpa using h1, h2⟩
theorem RpAll.append {K : Frg} {H : Hp} : ∀ {vs ws : List V} {ds es : List D}, RpAll K H vs ds → RpAll K H ws es → RpAll K H (vs ++ ws) (ds ++ es)
  | _, _, _, _, .nil, q => q
  | _, _, _, _, .cons a t, q => .cons a (RpAll.append t q)
theorem RpAll.take {K : Frg} {H : Hp} : ∀ {vs : List V} {ds : List D} (n : Nat), RpAll K H vs ds → RpAll K H (vs.take n) (ds.take n)
  | _, _, 0, _ => by rw [List.take_zero, List.take_zero]; exact .nil
  | _, _, n + 1, .nil => .nil
  | _, _, n + 1, .cons a t => .cons a (RpAll.take n t)
theorem RpAll.drop {K : Frg} {H : Hp} : ∀ {vs : List V} {ds : List D} (n : Nat), RpAll K H vs ds → RpAll K H (vs.drop n) (ds.drop n)
  | _, _, 0, h => h
  | _, _, n + 1, .nil => .nil
  | _, _, n + 1, .cons a t => RpAll.drop n t
theorem RpAll.set {K : Frg} {H : Hp} {v : V} {d : D} (r : Rp K H v d) : ∀ {vs : List V} {ds : List D} (n : Nat), RpAll K H vs ds → RpAll K H (vs.set n v) (ds.set n d)
  | _, _, _, .nil => .nil
  | _, _, 0, .cons a t => .cons r t
  | _, _, n + 1, .cons a t => .cons a (RpAll.set r n t)

/-- at p stands d, all of it but p for good -/
inductive Own (K : Frg) (G : Hp) (p : Addr) : HO → D → Prop
  | lst {vs : List V} {ds : List D} : RpAll K G vs ds → Own K G p (.lst vs) (.lst ds)
  | dic {ks : List L2.Key} {vs : List V} {ds : List D} : ks.length = vs.length → RpAll K G vs ds → Own K G p (.dK (ks.zip vs)) (.dic ks ds)
theorem Own.up {K : Frg} {G G' : Hp} {p : Addr} {o : HO} {d : D} (h : Own K G p o d) (e : Same G G') : Own K G' p o d := by
  cases h with
  | lst h => exact .lst (RpAll.up h e)
  | dic l h => exact .dic l (RpAll.up h e)
theorem Own.rp {K : Frg} {G : Hp} {p : Addr} {o : HO} {d : D} (h : Own K G p o d) (g : G p = some o) : Rp K G (.ref p) d := by
  cases h with
  | lst h => exact .lst g h
  | dic l h => exact .dic g l h
theorem Own.mut {K : Frg} {G : Hp} {p : Addr} {o : HO} {d : D} (h : Own K G p o d) : isMut d = true := by
  cases h <;> rfl
theorem Own.nt {K : Frg} {G : Hp} {p : Addr} {o : HO} {d : D} (h : Own K G p o d) : ∀ xs, o ≠ .tup xs := by
  cases h <;> (intro xs e; cases e)

/-! ### the relation between slots as data and slots as values -/
/-- what is fixed while a def runs: the written part, the heap at its entry (frozen part, all of it), what is wanted of an exception -/
structure Fx where
  K : Frg
  G0 : Hp
  H0 : Hp
  /-- objects held aside: nobody touches them -/
  B : Hp
  W : WX
  XR : Exn → Value → Option Addr → Hp → Prop
def NotOwned (ρ : En) (O : Nat → List Addr) (p : Addr) : Prop := ∀ (i : Nat) (d : D), ρ[i]? = some (Sl.own d) → p ∉ O i
/-- G: what stands for good; H: all; O: which addresses each slot owns -/
structure Er (F : Fx) (G H : Hp) (σ : L2.St) (ρ : En) (O : Nat → List Addr) : Prop where
  len : ρ.length = σ.length
  g0 : Same F.G0 G
  h0 : Same F.H0 H
  gh : Same G H
  new : ∀ a o, G a = some o → F.G0 a = none → F.H0 a = none
  val : ∀ (i : Nat) (d : D), ρ[i]? = some (Sl.val d) → ∃ v, σ[i]? = some (some v) ∧ Rp F.K G v d
  own : ∀ (i : Nat) (d : D), ρ[i]? = some (Sl.own d) → ∃ p o, σ[i]? = some (some (.ref p)) ∧ O i = [p] ∧ H p = some o ∧ G p = none ∧ F.H0 p = none ∧ Own F.K G p o d
  dis : ∀ (i j : Nat) (d e : D), i ≠ j → ρ[i]? = some (Sl.own d) → ρ[j]? = some (Sl.own e) → ∀ a, a ∈ O i → a ∉ O j
  held : ∀ a o, F.B a = some o → H a = some o ∧ G a = none ∧ NotOwned ρ O a
/-- from one state to a later one: what stands for good stands, what no slot owns is as it was -/
structure Stp (ρ : En) (O : Nat → List Addr) (G H : Hp) (ρ' : En) (O' : Nat → List Addr) (G' H' : Hp) : Prop where
  g : Same G G'
theorem strf {ρ : En} {O : Nat → List Addr} {G H : Hp} : Stp ρ O G H ρ O G H := ⟨Same.refl G⟩
theorem Stp.trans {ρ ρ1 ρ2 : En} {O O1 O2 : Nat → List Addr} {G H G1 H1 G2 H2 : Hp} (a : Stp ρ O G H ρ1 O1 G1 H1) (b : Stp ρ1 O1 G1 H1 ρ2 O2 G2 H2) : Stp ρ O G H ρ2 O2 G2 H2 := ⟨a.g.trans b.g⟩
theorem Stp.ofG {ρ ρ' : En} {O O' : Nat → List Addr} {G G' H H' : Hp} (s : Same G G') : Stp ρ O G H ρ' O' G' H' := ⟨s⟩
theorem Stp.ofH {ρ : En} {O : Nat → List Addr} {G G' H H' : Hp} (s : Same G G') (_ : Same H H') : Stp ρ O G H ρ O G' H' := ⟨s⟩
/-- an expression's value: a list just made (fr), or what stands for good -/
def Rv (F : Fx) (G H : Hp) (ρ : En) (O : Nat → List Addr) (fr : Bool) (v : V) (d : D) : Prop :=
  (∃ p o, fr = true ∧ v = .ref p ∧ H p = some o ∧ G p = none ∧ F.H0 p = none ∧ F.B p = none ∧ NotOwned ρ O p ∧ Own F.K G p o d) ∨
  ((fr = true → isMut d = false) ∧ Rp F.K G v d)
/-- what may be read: it stands for good, or all of it but itself -/
def Vw (K : Frg) (G H : Hp) (v : V) (d : D) : Prop := Rp K G v d ∨ ∃ p o, v = .ref p ∧ H p = some o ∧ Own K G p o d
theorem Vw.up {K : Frg} {G G' H : Hp} {v : V} {d : D} (h : Vw K G H v d) (e : Same G G') : Vw K G' H v d := by
  rcases h with h | ⟨p, o, h1, h2, h3⟩
  · exact .inl (h.up e)
  · exact .inr ⟨p, o, h1, h2, h3.up e⟩
theorem Vw.rp {K : Frg} {G H : Hp} {v : V} {d : D} (h : Vw K G H v d) (e : Same G H) : Rp K H v d := by
  rcases h with h | ⟨p, o, rfl, h2, h3⟩
  · exact h.up e
  · exact (h3.up e).rp h2

/-! ### readings -/
/-- what is wanted at an exception -/
def Xc (F : Fx) (σ : L2.St) (x : Exn) (ρ : En) (G : Hp) : Prop := ∀ c dx G' H' O', Er F G' H' σ ρ O' → Same G G' → F.XR x c dx H' → F.W c dx σ H'
def rdE (F : Fx) (m : M D) (fr : Bool) : TE := fun σ H Q => ∃ G ρ O, Er F G H σ ρ O ∧ match m ρ with
  | .ok d ρ' => ∀ v G' H' O', Er F G' H' σ ρ' O' → Stp ρ O G H ρ' O' G' H' → Rv F G' H' ρ' O' fr v d → Q v H'
  | .exc x ρ' => Xc F σ x ρ' G
  | .bad => False
def rdT (F : Fx) (m : M Bool) : TT := fun σ H Q => ∃ G ρ O, Er F G H σ ρ O ∧ match m ρ with
  | .ok b ρ' => ∀ G' H' O', Er F G' H' σ ρ' O' → Stp ρ O G H ρ' O' G' H' → Q b H'
  | .exc x ρ' => Xc F σ x ρ' G
  | .bad => False
theorem Xc.up {F : Fx} {σ : L2.St} {x : Exn} {ρ : En} {G G' : Hp} (h : Xc F σ x ρ G) (e : Same G G') : Xc F σ x ρ G' := fun c dx G2 H' O' E s r => h c dx G2 H' O' E (e.trans s) r

/-! ### weakening of readings -/
theorem peI {X : Cx} {e : Expr} {t t' : TE} (h : PE X e t) (i : ∀ σ H Q, t' σ H Q → t σ H Q) : PE X e t' := ⟨fun pins s σ H Q I q => h.run pins s σ H Q I (i _ _ _ q)⟩
theorem ptI {X : Cx} {e : Expr} {t t' : TT} (h : PT X e t) (i : ∀ σ H Q, t' σ H Q → t σ H Q) : PT X e t' := ⟨fun pins s σ H Q I q => h.run pins s σ H Q I (i _ _ _ q)⟩
theorem paI {X : Cx} {e : List Expr} {t t' : TA} (h : PA X e t) (i : ∀ σ H Q, t' σ H Q → t σ H Q) : PA X e t' := ⟨fun pos pins s σ H Q I q => h.run pos pins s σ H Q I (i _ _ _ q)⟩
theorem psI {X : Cx} {e : Stmt} {t t' : TS} (h : PS X e t) (i : ∀ D σ H, t' D σ H → t D σ H) : PS X e t' := ⟨fun pins s σ H D I q => h.run pins s σ H D I (i _ _ _ q)⟩
theorem pssI {X : Cx} {e : List Stmt} {t t' : TS} (h : PSs X e t) (i : ∀ D σ H, t' D σ H → t D σ H) : PSs X e t' := ⟨fun pins s σ H D I q => h.run pins s σ H D I (i _ _ _ q)⟩

/-! ### new objects -/
section
variable {F : Fx} {G H : Hp} {σ : L2.St} {ρ : En} {O : Nat → List Addr}
theorem srfl {H : Hp} : Same H H := Same.refl H
theorem same_new {H : Hp} {p : Addr} {o : HO} (h : H p = none) : Same H (upd H p o) := fun b x e => by
  rw [upd_ne (ne_of_none e h)]
  exact e
theorem Er.gnone (E : Er F G H σ ρ O) {p : Addr} (h : H p = none) : G p = none := Same.free E.gh h
theorem Er.bnone (E : Er F G H σ ρ O) {p : Addr} (h : H p = none) : F.B p = none := by
  cases q : F.B p with
  | none => rfl
  | some o =>
    have := (E.held p o q).1
    rw [h] at this
    cases this
theorem Er.h0none (E : Er F G H σ ρ O) {p : Addr} (h : H p = none) : F.H0 p = none := Same.free E.h0 h
/-- a new object for good -/
theorem Er.froz (E : Er F G H σ ρ O) {p : Addr} {o : HO} (h : H p = none) : Er F (upd G p o) (upd H p o) σ ρ O where
  len := E.len
  g0 := E.g0.trans (same_new (E.gnone h))
  h0 := E.h0.trans (same_new h)
  gh := fun b x e => by
    by_cases hb : b = p
    · subst hb; rw [upd_same] at e ⊢; exact e
    · rw [upd_ne hb] at e ⊢; exact E.gh b x e
  new := fun a x e n => by
    by_cases hb : a = p
    · subst hb; exact E.h0none h
    · rw [upd_ne hb] at e; exact E.new a x e n
  val := fun i d q => let ⟨v, a, b⟩ := E.val i d q; ⟨v, a, Rp.up b (same_new (E.gnone h))⟩
  own := fun i ds q => by
    obtain ⟨a, vs, h1, h2, h3, h4, h5, h6⟩ := E.own i ds q
    have ne : a ≠ p := ne_of_none h3 h
    exact ⟨a, vs, h1, h2, by rw [upd_ne ne]; exact h3, by rw [upd_ne ne]; exact h4, h5, Own.up h6 (same_new (E.gnone h))⟩
  dis := E.dis
  held := fun a x e => by
    obtain ⟨h1, h2, h3⟩ := E.held a x e
    have ne : a ≠ p := ne_of_none h1 h
    exact ⟨by rw [upd_ne ne]; exact h1, by rw [upd_ne ne]; exact h2, h3⟩
/-- a new object, not yet for good -/
theorem Er.fresh (E : Er F G H σ ρ O) {p : Addr} {o : HO} (h : H p = none) : Er F G (upd H p o) σ ρ O where
  len := E.len
  g0 := E.g0
  h0 := E.h0.trans (same_new h)
  gh := E.gh.trans (same_new h)
  new := E.new
  val := E.val
  own := fun i ds q => by
    obtain ⟨a, vs, h1, h2, h3, h4, h5, h6⟩ := E.own i ds q
    have ne : a ≠ p := ne_of_none h3 h
    exact ⟨a, vs, h1, h2, by rw [upd_ne ne]; exact h3, h4, h5, h6⟩
  dis := E.dis
  held := fun a x e => by
    obtain ⟨h1, h2, h3⟩ := E.held a x e
    have ne : a ≠ p := ne_of_none h1 h
    exact ⟨by rw [upd_ne ne]; exact h1, h2, h3⟩
theorem Er.notown (E : Er F G H σ ρ O) {p : Addr} (h : H p = none) : NotOwned ρ O p := fun i d q hm => by
  obtain ⟨a, vs, h1, h2, h3, _⟩ := E.own i d q
  rw [h2] at hm
  simp at hm
  subst hm
  rw [h] at h3
  cases h3
/-- a list just made stands for good from now on -/
theorem Er.keep (E : Er F G H σ ρ O) {p : Addr} {o : HO} (h : H p = some o) (g : G p = none) (h0 : F.H0 p = none) (hB : F.B p = none) (no : NotOwned ρ O p) : Er F (upd G p o) H σ ρ O where
  len := E.len
  g0 := E.g0.trans (same_new g)
  h0 := E.h0
  gh := fun b x e => by
    by_cases hb : b = p
    · subst hb; rw [upd_same] at e; rw [h]; exact e
    · rw [upd_ne hb] at e; exact E.gh b x e
  new := fun a x e n => by
    by_cases hb : a = p
    · subst hb; exact h0
    · rw [upd_ne hb] at e; exact E.new a x e n
  val := fun i d q => let ⟨v, a, b⟩ := E.val i d q; ⟨v, a, Rp.up b (same_new g)⟩
  own := fun i ds q => by
    obtain ⟨a, vs', h1, h2, h3, h4, h5, h6⟩ := E.own i ds q
    have ne : a ≠ p := fun e => by
      subst e
      exact no i ds q (by rw [h2]; simp)
    exact ⟨a, vs', h1, h2, h3, by rw [upd_ne ne]; exact h4, h5, Own.up h6 (same_new g)⟩
  dis := E.dis
  held := fun a x e => by
    obtain ⟨h1, h2, h3⟩ := E.held a x e
    have ne : a ≠ p := ne_of_none e hB
    exact ⟨h1, by rw [upd_ne ne]; exact h2, h3⟩
/-- any value for good -/
theorem Er.hold (E : Er F G H σ ρ O) {fr : Bool} {v : V} {d : D} (r : Rv F G H ρ O fr v d) : ∃ G', Same G G' ∧ Er F G' H σ ρ O ∧ Rp F.K G' v d := by
  rcases r with ⟨p, o, _, rfl, h1, h2, h3, hB, h4, h5⟩ | ⟨_, h⟩
  · exact ⟨_, same_new h2, E.keep h1 h2 h3 hB h4, (h5.up (same_new h2)).rp upd_same⟩
  · exact ⟨G, srfl, E, h⟩
/-- a slot's own list stands for good from now on -/
theorem Er.give (E : Er F G H σ ρ O) {i : Nat} {d : D} (q : ρ[i]? = some (Sl.own d)) : ∃ G' v, Same G G' ∧ σ[i]? = some (some v) ∧ Rp F.K G' v d ∧ Er F G' H σ (ρ.set i (.val d)) O := by
  obtain ⟨p, o, h1, h2, h3, h4, h5, h6⟩ := E.own i d q
  have hi : i < ρ.length := by
    rcases Nat.lt_or_ge i ρ.length with h | h
    · exact h
    · rw [List.getElem?_eq_none h] at q; cases q
  have other : ∀ {j : Nat} {e : D}, (ρ.set i (.val d))[j]? = some (Sl.own e) → j ≠ i ∧ ρ[j]? = some (Sl.own e) := fun {j e} z => by
    by_cases hj : j = i
    · subst hj
      rw [List.getElem?_set_self hi] at z
      cases z
    · rw [List.getElem?_set_ne (Ne.symm hj)] at z
      exact ⟨hj, z⟩
  refine ⟨upd G p o, .ref p, same_new h4, h1, (h6.up (same_new h4)).rp upd_same, ?_⟩
  refine ⟨by rw [List.length_set]; exact E.len, E.g0.trans (same_new h4), E.h0, fun b x e => ?_, fun a x e n => ?_, fun j e z => ?_, fun j e z => ?_, fun j k e1 e2 ne z1 z2 => E.dis j k e1 e2 ne (other z1).2 (other z2).2, fun a x e => ?_⟩
  · by_cases hb : b = p
    · subst hb; rw [upd_same] at e; rw [h3]; exact e
    · rw [upd_ne hb] at e; exact E.gh b x e
  · by_cases hb : a = p
    · subst hb; exact h5
    · rw [upd_ne hb] at e; exact E.new a x e n
  · by_cases hj : j = i
    · subst hj
      rw [List.getElem?_set_self hi] at z
      cases z
      exact ⟨.ref p, h1, (h6.up (same_new h4)).rp upd_same⟩
    · rw [List.getElem?_set_ne (Ne.symm hj)] at z
      obtain ⟨v, a, b⟩ := E.val j e z
      exact ⟨v, a, b.up (same_new h4)⟩
  · obtain ⟨hj, z⟩ := other z
    obtain ⟨a, o', g1, g2, g3, g4, g5, g6⟩ := E.own j e z
    have ne : a ≠ p := fun q2 => E.dis i j d e (Ne.symm hj) q z p (by rw [h2]; simp) (by rw [g2, q2]; simp)
    exact ⟨a, o', g1, g2, g3, by rw [upd_ne ne]; exact g4, g5, g6.up (same_new h4)⟩
  · obtain ⟨g1, g2, g3⟩ := E.held a x e
    have ne : a ≠ p := fun q2 => g3 i d q (by rw [h2, q2]; simp)
    exact ⟨g1, by rw [upd_ne ne]; exact g2, fun j e' z => g3 j e' (other z).2⟩
theorem stp_give {i : Nat} {d : D} {G' : Hp} (s : Same G G') : Stp ρ O G H (ρ.set i (.val d)) O G' H := ⟨s⟩
end
theorem rdE_hold {F : Fx} {m : M D} {fr : Bool} {σ : L2.St} {H : Hp} {Q : VK} (h : ∃ G ρ O, Er F G H σ ρ O ∧ match m ρ with
  | .ok d ρ' => ∀ v G' H' O', Er F G' H' σ ρ' O' → Stp ρ O G H ρ' O' G' H' → Rp F.K G' v d → Q v H'
  | .exc x ρ' => Xc F σ x ρ' G
  | .bad => False) : rdE F m fr σ H Q := by
  obtain ⟨G, ρ, O, E, h⟩ := h
  refine ⟨G, ρ, O, E, ?_⟩
  cases e : m ρ with
  | ok d ρ' =>
    rw [e] at h
    intro v G' H' O' E' s r
    obtain ⟨G2, s2, E2, r2⟩ := E'.hold r
    exact h v G2 H' O' E2 (s.trans (.ofG s2)) r2
  | exc x ρ' => rw [e] at h; exact h
  | bad => rw [e] at h; exact h
end Dv
namespace Dv
open PySem L2 PyProof.Rows
theorem tuple_mul1 (l : Addr) (items : Array Value) (n : Nat) (dd : Option Addr) (sl : Array (Option Value)) (x : Int) (u : Tok) (c0 : (decide (x < -(2 ^ 63)) || decide (x ≥ 2 ^ 63)) = false) (c1 : (items.isEmpty || x == 1) = true) :
    Meets (Builtin.«tuple.__mul__» ⟨[.ref l, .int x u], []⟩) (fun _ R s => s.heap.get? l = some { cls := .type "tuple", dict := dd, data := .seq items n, slots := sl } ∧
      R (.ok (.ret (Value.ref l))) s) :=
  .of_wp fun prog w A R s h => by
    obtain ⟨hp, g, d, tk, os⟩ := s
    obtain ⟨hl, h⟩ := h
    have f1 := AutoSeq1.idx_int
    wp_walk using wpAny_loadPart' hl
    repeat (first
      | (refine wpAny_ite_false (decide_eq_false (by rw [c0]; exact Bool.false_ne_true)) ?_; wp_walk using wpAny_loadPart' hl)
      | (refine wpAny_ite_true (decide_eq_true (by rw [c1])) ?_; wp_walk using wpAny_loadPart' hl))
    exact ⟨_, rfl, h⟩
theorem tuple_mul0 (l : Addr) (items : Array Value) (n : Nat) (dd : Option Addr) (sl : Array (Option Value)) (x : Int) (u : Tok) (c0 : (decide (x < -(2 ^ 63)) || decide (x ≥ 2 ^ 63)) = false) (c1 : (items.isEmpty || x == 1) = false) (c2 : (decide (x ≤ 0) || items.isEmpty) = true) :
    Meets (Builtin.«tuple.__mul__» ⟨[.ref l, .int x u], []⟩) (fun _ R s => s.heap.get? l = some { cls := .type "tuple", dict := dd, data := .seq items n, slots := sl } ∧
      R (.ok (.ret (Value.ref s.heap.objs.size))) { s with heap := s.heap.push { cls := Value.type "tuple", data := Data.seq #[] }, toks := s.toks }) :=
  .of_wp fun prog w A R s h => by
    obtain ⟨hp, g, d, tk, os⟩ := s
    obtain ⟨hl, h⟩ := h
    have f1 := AutoSeq1.idx_int
    wp_walk using wpAny_loadPart' hl
    repeat (first
      | (refine wpAny_ite_false (decide_eq_false (by rw [c0]; exact Bool.false_ne_true)) ?_; wp_walk using wpAny_loadPart' hl)
      | (refine wpAny_ite_false (decide_eq_false (by rw [c1]; exact Bool.false_ne_true)) ?_; wp_walk using wpAny_loadPart' hl)
      | (refine wpAny_ite_true (decide_eq_true (by rw [c2])) ?_; wp_walk using wpAny_loadPart' hl))
    exact ⟨_, rfl, h⟩

theorem flat_rep_len {α : Type} (a : List α) : ∀ k : Nat, (List.replicate k a).flatten.length = a.length * k
  | 0 => rfl
  | k + 1 => by rw [List.replicate_succ, List.flatten_cons, List.length_append, flat_rep_len a k, Nat.mul_succ, Nat.add_comm]
section
variable {X : Cx}
def rRepTA (K : PySem.W.Frag) : R2 := fun x y H Q => ∃ l k xs, x = .ref l ∧ y = .int k ∧ SqT K H l xs ∧ -(2 ^ 63) ≤ k ∧ k < 2 ^ 63 ∧ xs.length * k.toNat ≤ 16000000 ∧
  ((xs = [] ∨ k = 1) → Q (.ref l) H) ∧ (¬ (xs = [] ∨ k = 1) → ∀ p, H p = none → Q (.ref p) (upd H p (.tup (List.replicate k.toNat xs).flatten)))
/-- a tuple times any int -/
theorem op_repTA : OpR X (binaryOp .Mult) (rRepTA X.K) := by
  intro pins s σ H x y v u Q I rx ry h
  obtain ⟨l, k, xs, rfl, rfl, hT, h1, h2, hz, q1, q2⟩ := h
  cases rx
  obtain ⟨t, rfl⟩ := ry
  obtain ⟨its, r, ⟨⟨cls, dd, data, sl⟩, ho, hc, n, hd⟩, hs⟩ := I.tuple hT
  simp only at hc hd
  subst hc hd
  have hle : its.length = xs.length := r.length.symm
  have he : its.toArray.isEmpty = decide (xs = []) := by
    cases r <;> simp
  have c0 : (decide (k < -(2 ^ 63)) || decide (k ≥ 2 ^ 63)) = false := by
    rw [decide_eq_false (by omega), decide_eq_false (by omega)] <;> rfl
  have go : ∀ {R : Result → Shared → Prop}, (∀ (prog : Program) (w : World) (A : Around), True) → True := fun _ => trivial
  by_cases hk : xs = [] ∨ k = 1
  · have c1 : (its.toArray.isEmpty || k == 1) = true := by
      rw [he]
      rcases hk with e | e
      · rw [decide_eq_true e]; rfl
      · rw [e]; simp
    refine wpAny_binaryOp_repeat_ref (T := "tuple") (U := "int") (by decide) ⟨_, ho, rfl⟩ (fun s' => typeIs_int s' k t) noFill_tuple_mul F.fills_int_mul F.slot_int_rmul repeat_tuple F.slot_int_index.lookup
      (call_meets F.slot_int_rmul (typeIs_int s k t) F.entry_int_rmul (F.args_int_rmul_2 _ _) (int_rmul_tuple k t l its.toArray n dd sl)
        ⟨ho, rfl, ⟨_, ho, rfl⟩, call_meets F.slot_tuple_mul ⟨_, ho, rfl⟩ F.entry_tuple_mul (F.args_tuple_mul_2 _ _) (tuple_mul1 l its.toArray n dd sl k t c0 c1) ⟨ho, ?_⟩⟩)
    exact ⟨.ref l, H, I, rfl, q1 hk⟩
  · have hn : xs ≠ [] := fun e => hk (.inl e)
    have h1' : k ≠ 1 := fun e => hk (.inr e)
    have hi : its.toArray.isEmpty = false := by rw [he, decide_eq_false hn]
    have c1 : (its.toArray.isEmpty || k == 1) = false := by
      rw [hi, Bool.false_or]
      exact beq_eq_false_iff_ne.mpr h1'
    by_cases h0 : k ≤ 0
    · have c2 : (decide (k ≤ 0) || its.toArray.isEmpty) = true := by rw [decide_eq_true h0]; rfl
      refine wpAny_binaryOp_repeat_ref (T := "tuple") (U := "int") (by decide) ⟨_, ho, rfl⟩ (fun s' => typeIs_int s' k t) noFill_tuple_mul F.fills_int_mul F.slot_int_rmul repeat_tuple F.slot_int_index.lookup
        (call_meets F.slot_int_rmul (typeIs_int s k t) F.entry_int_rmul (F.args_int_rmul_2 _ _) (int_rmul_tuple k t l its.toArray n dd sl)
          ⟨ho, rfl, ⟨_, ho, rfl⟩, call_meets F.slot_tuple_mul ⟨_, ho, rfl⟩ F.entry_tuple_mul (F.args_tuple_mul_2 _ _) (tuple_mul0 l its.toArray n dd sl k t c0 c1 c2) ⟨ho, ?_⟩⟩)
      have e0 : (List.replicate k.toNat xs).flatten = [] := by rw [show k.toNat = 0 by omega]; rfl
      have q := q2 hk
      rw [e0] at q
      refine ⟨.ref s.heap.objs.size, _, I.laid (t' := s.toks) (o := .tup []) (fun b ob q => Heap.get?_push_of_some _ q) (Nat.le_refl _) ?_, rfl, q _ (I.hok.fresh (Nat.le_refl _))⟩
      exact ⟨Nat.zero_le _, [], .nil, IsTup.new _ _⟩
    · have flen : (List.replicate k.toNat its).flatten.length ≤ sizeLine := by
        rw [flat_rep_len, hle, sizeLine_eq]
        omega
      have hsz0 : its.toArray.size = xs.length := by rw [List.size_toArray, hle]
      have hm : ((its.toArray.size : Nat) : Int) * k ≤ 16000000 := by
        rw [hsz0]
        have e : ((xs.length * k.toNat : Nat) : Int) = (xs.length : Int) * k := by
          rw [Int.natCast_mul, Int.toNat_of_nonneg (by omega)]
        omega
      have c2 : (decide (k ≤ 0) || its.toArray.isEmpty) = false := by
        rw [hi, Bool.or_false]
        exact decide_eq_false h0
      have c4 : Builtin.Tuple.tupleTooMany (((its.toArray.size : Nat) : Int) * k) = false := by
        unfold Builtin.Tuple.tupleTooMany
        rw [sizeLine_eq]
        exact decide_eq_false (by omega)
      refine wpAny_binaryOp_repeat_ref (T := "tuple") (U := "int") (by decide) ⟨_, ho, rfl⟩ (fun s' => typeIs_int s' k t) noFill_tuple_mul F.fills_int_mul F.slot_int_rmul repeat_tuple F.slot_int_index.lookup
        (call_meets F.slot_int_rmul (typeIs_int s k t) F.entry_int_rmul (F.args_int_rmul_2 _ _) (int_rmul_tuple k t l its.toArray n dd sl)
          ⟨ho, rfl, ⟨_, ho, rfl⟩, call_meets F.slot_tuple_mul ⟨_, ho, rfl⟩ F.entry_tuple_mul (F.args_tuple_mul_2 _ _) (tuple_mulW l its.toArray n dd sl k t c0 c1 c2 (by omega) c4 (by rw [size_rep, List.size_toArray]; exact flen)) ⟨ho, ?_⟩⟩)
      rw [size_rep]
      refine ⟨.ref s.heap.objs.size, _, I.laid (t' := s.toks) (o := .tup (List.replicate k.toNat xs).flatten) (fun b ob q => Heap.get?_push_of_some _ q) (Nat.le_refl _) ?_, rfl, q2 hk _ (I.hok.fresh (Nat.le_refl _))⟩
      exact ⟨by rw [flat_rep_len, sizeLine_eq]; omega, _, r.rep k.toNat, IsTup.new _ _⟩
theorem foldl_app {α : Type} : ∀ (l : List (Array α)) (a : Array α), l.foldl (· ++ ·) a = a ++ (l.map Array.toList).flatten.toArray
  | [], a => by simp
  | x :: r, a => by
    rw [List.foldl_cons, foldl_app r, List.map_cons, List.flatten_cons, Array.append_assoc]
    congr 1
    apply Array.toList_inj.mp
    simp
/-- a text times an int -/
theorem op_repS : OpR X (binaryOp .Mult) (fun x y H Q => ∃ z k, x = .str z ∧ y = .int k ∧ -(2 ^ 63) ≤ k ∧ k < 2 ^ 63 ∧ z.length * k.toNat ≤ 16000000 ∧ Q (.str ⟨((List.replicate k.toNat z.cps.toList).flatten).toArray⟩) H) := by
  intro pins s σ H x y v u Q I rx ry h
  obtain ⟨z, k, rfl, rfl, h0, h1, h2, q⟩ := h
  obtain ⟨t, rfl⟩ := rx
  obtain ⟨t', rfl⟩ := ry
  have hz : z.length = z.cps.toList.length := by simp [Str.length]
  refine PySem.P.mul_str (by rw [decide_eq_false (by omega), decide_eq_false (by omega)] <;> rfl) (fun a b => ?_) (fun a b => ?_) ?_
  · have e : ((z.length * k.toNat : Nat) : Int) = (z.length : Int) * k := by
      rw [Int.natCast_mul, Int.toNat_of_nonneg (by omega)]
    have h3 : (z.length : Int) * k ≤ 16000000 := by omega
    intro h4
    have h5 := Int.ediv_mul_le (2 ^ 63 - 1) (show k ≠ 0 by omega)
    have h6 := Int.lt_ediv_add_one_mul_self (2 ^ 63 - 1) (show 0 < k by omega)
    have h7 : ((2 ^ 63 - 1) / k + 1) * k ≤ (z.length : Int) * k := Int.mul_le_mul_of_nonneg_right (by omega) (by omega)
    omega
  · unfold Builtin.Str.tooLong
    rw [sizeLine_eq]
    exact decide_eq_false (by omega)
  · by_cases hk : k < 1
    · rw [if_pos hk]
      have e0 : (⟨((List.replicate k.toNat z.cps.toList).flatten).toArray⟩ : Str) = Str.empty := by
        rw [show k.toNat = 0 by omega]
        rfl
      rw [e0] at q
      exact ⟨by decide, .str Str.empty, H, I.tok _, ⟨_, rfl⟩, q⟩
    · rw [if_neg hk]
      by_cases hc : (k == 1 || z.length == 0) = true
      · rw [if_pos hc]
        have e1 : (⟨((List.replicate k.toNat z.cps.toList).flatten).toArray⟩ : Str) = z := by
          obtain ⟨cs⟩ := z
          rcases Bool.or_eq_true_iff.mp hc with e | e
          · have e' : k = 1 := eq_of_beq e
            subst e'
            simp [List.replicate]
          · have e' : cs.size = 0 := eq_of_beq e
            have e2 : cs.toList = [] := by
              apply List.eq_nil_of_length_eq_zero
              simpa using e'
            have e3 : cs = #[] := Array.eq_empty_of_size_eq_zero e'
            rw [e2, e3]
            simp
        rw [e1] at q
        exact ⟨.str z, H, I, ⟨_, rfl⟩, q⟩
      · rw [if_neg hc]
        have e1 : ((List.replicate k.toNat z.cps).foldl (· ++ ·) #[]) = ((List.replicate k.toNat z.cps.toList).flatten).toArray := by
          rw [foldl_app]
          simp
        rw [e1]
        refine ⟨?_, .str _, H, I.tok _, ⟨_, rfl⟩, q⟩
        show (((List.replicate k.toNat z.cps.toList).flatten).toArray).size ≤ sizeLine
        rw [List.size_toArray, flat_rep_len, sizeLine_eq, ← hz]
        omega
end
end Dv
namespace Dv
open PySem L2

/-! ### what is read, by its kind -/
section
variable {K : Frg} {G H : Hp} {x : V}
theorem Vw.int' {i : Int} (h : Vw K G H x (.int i)) : x = .int i := by
  rcases h with h | ⟨p, o, _, _, h⟩
  · exact (by cases h; rfl)
  · cases h
theorem Vw.bl' {i : Bool} (h : Vw K G H x (.bl i)) : x = .bl i := by
  rcases h with h | ⟨p, o, _, _, h⟩
  · exact (by cases h; rfl)
  · cases h
theorem Vw.str' {i : Str} (h : Vw K G H x (.str i)) : x = .str i := by
  rcases h with h | ⟨p, o, _, _, h⟩
  · exact (by cases h; rfl)
  · cases h
theorem Vw.non' (h : Vw K G H x .non) : x = .non := by
  rcases h with h | ⟨p, o, _, _, h⟩
  · exact (by cases h; rfl)
  · cases h
theorem Vw.tup' {ds : List D} (h : Vw K G H x (.tup ds)) : ∃ a xs, x = .ref a ∧ SqT K G a xs ∧ RpAll K G xs ds := by
  rcases h with h | ⟨p, o, _, _, h⟩
  · cases h with
    | tup h1 h2 => exact ⟨_, _, rfl, h1, h2⟩
  · cases h
theorem Vw.lst' {ds : List D} (e : Same G H) (h : Vw K G H x (.lst ds)) : ∃ a xs, x = .ref a ∧ H a = some (.lst xs) ∧ RpAll K G xs ds := by
  rcases h with h | ⟨p, o, rfl, h1, h⟩
  · cases h with
    | lst h1 h2 => exact ⟨_, _, rfl, e _ _ h1, h2⟩
  · cases h with
    | lst h2 => exact ⟨_, _, rfl, h1, h2⟩
theorem Vw.dic' {ks : List L2.Key} {ds : List D} (e : Same G H) (h : Vw K G H x (.dic ks ds)) : ∃ a xs, x = .ref a ∧ H a = some (.dK (ks.zip xs)) ∧ ks.length = xs.length ∧ RpAll K G xs ds := by
  rcases h with h | ⟨p, o, rfl, h1, h⟩
  · cases h with
    | dic h1 h2 h3 => exact ⟨_, _, rfl, e _ _ h1, h2, h3⟩
  · cases h with
    | dic h2 h3 => exact ⟨_, _, rfl, h1, h2, h3⟩
theorem Vw.scr' {ns : List Int} (h : Vw K G H x (.scr ns)) : ∃ a, x = .ref a ∧ SqL K G a (ns.map V.int) := by
  rcases h with h | ⟨p, o, _, _, h⟩
  · cases h with
    | scr h1 => exact ⟨_, rfl, h1⟩
  · cases h
end

/-! ### the results that need no heap -/
section
variable {F : Fx} {G H : Hp} {σ : L2.St} {ρ : En} {O : Nat → List Addr} {fr : Bool}
theorem rv_val {v : V} {d : D} (m : isMut d = false) (h : Rp F.K G v d) : Rv F G H ρ O fr v d := .inr ⟨fun _ => m, h⟩
theorem rv_int {i : Int} : Rv F G H ρ O fr (.int i) (.int i) := rv_val rfl (.int i)
theorem rv_bl {i : Bool} : Rv F G H ρ O fr (.bl i) (.bl i) := rv_val rfl (.bl i)
theorem rv_str {i : Str} : Rv F G H ρ O fr (.str i) (.str i) := rv_val rfl (.str i)
theorem rv_non : Rv F G H ρ O fr .non .non := rv_val rfl .non
/-- what is wanted of a value, and what is given by a new one -/
def Wants (F : Fx) (G H : Hp) (σ : L2.St) (ρ : En) (O : Nat → List Addr) (fr : Bool) (d : D) (Q : VK) : Prop := ∀ v G' H' O', Er F G' H' σ ρ O' → Stp ρ O G H ρ O' G' H' → Rv F G' H' ρ O' fr v d → Q v H'
theorem Er.new_tup (E : Er F G H σ ρ O) {xs : List V} {ds : List D} {Q : VK} (h : RpAll F.K G xs ds) (w : Wants F G H σ ρ O fr (.tup ds) Q) : ∀ p, H p = none → Q (.ref p) (upd H p (.tup xs)) := fun p hp =>
  w _ _ _ _ (E.froz hp) (.ofH (same_new (E.gnone hp)) (same_new hp)) (rv_val rfl (.tup (.inl (.inl upd_same)) (h.up (same_new (E.gnone hp)))))
theorem Er.new_lst (E : Er F G H σ ρ O) {xs : List V} {ds : List D} {Q : VK} (h : RpAll F.K G xs ds) (w : Wants F G H σ ρ O true (.lst ds) Q) : ∀ p, H p = none → Q (.ref p) (upd H p (.lst xs)) := fun p hp =>
  w _ _ _ _ (E.fresh hp) (.ofH srfl (same_new hp)) (.inl ⟨p, _, rfl, rfl, upd_same, E.gnone hp, E.h0none hp, E.bnone hp, E.notown hp, .lst h⟩)
theorem Er.new_dic (E : Er F G H σ ρ O) {ks : List L2.Key} {xs : List V} {ds : List D} {Q : VK} (l : ks.length = xs.length) (h : RpAll F.K G xs ds) (w : Wants F G H σ ρ O true (.dic ks ds) Q) : ∀ p, H p = none → Q (.ref p) (upd H p (.dK (ks.zip xs))) := fun p hp =>
  w _ _ _ _ (E.fresh hp) (.ofH srfl (same_new hp)) (.inl ⟨p, _, rfl, rfl, upd_same, E.gnone hp, E.h0none hp, E.bnone hp, E.notown hp, .dic l h⟩)
theorem Wants.fr_false {d : D} {Q : VK} (m : isMut d = false) (w : Wants F G H σ ρ O false d Q) : Wants F G H σ ρ O true d Q := fun v G' H' O' E s r => w v G' H' O' E s (by
  rcases r with ⟨p, o, _, _, _, _, _, _, _, h5⟩ | ⟨_, h⟩
  · rw [h5.mut] at m; cases m
  · exact .inr ⟨(fun e => nomatch e), h⟩)
end

/-! ### operations on two values -/
def Op2g (F : Fx) (f : D → D → Option D) (fr : Bool) (r : R2) : Prop := ∀ G H σ ρ O x y a b d (Q : VK), Er F G H σ ρ O → Vw F.K G H x a → Vw F.K G H y b → f a b = some d → Wants F G H σ ρ O fr d Q → r x y H Q
abbrev Op2 (F : Fx) (f : D → D → Option D) (r : R2) : Prop := Op2g F f true r
section
variable {F : Fx}
theorem Op2.alt {f g : D → D → Option D} {r q : R2} (h : Op2 F f r) (k : Op2 F g q) : Op2 F (fun a b => f a b <|> g a b) (fun x y H Q => r x y H Q ∨ q x y H Q) := by
  intro G H σ ρ O x y a b d Q E va vb e w
  cases hf : f a b with
  | some c =>
    have e' : (f a b <|> g a b) = some d := e
    rw [hf] at e'
    replace e' : some c = some d := e'
    cases e'
    exact .inl (h G H σ ρ O x y a b _ Q E va vb hf w)
  | none =>
    have e' : (f a b <|> g a b) = some d := e
    rw [hf] at e'
    replace e' : g a b = some d := e'
    exact .inr (k G H σ ρ O x y a b _ Q E va vb e' w)
theorem op2_int {C : Int → Int → Prop} [∀ i j, Decidable (C i j)] {g : Int → Int → Int} {r : R2} (hr : r = rI C fun i j => .int (g i j)) {f : D → D → Option D}
    (hf : ∀ a b, f a b = match a, b with | .int i, .int j => (if C i j then some (.int (g i j)) else none) | _, _ => none) : Op2 F f r := by
  intro G H σ ρ O x y a b d Q E va vb e w
  rw [hf] at e
  subst hr
  split at e
  · rename_i i j
    split at e
    · rename_i hc
      cases e
      exact ⟨i, j, va.int', vb.int', hc, w _ _ _ _ E strf rv_int⟩
    · cases e
  · cases e
theorem op2_cmp {g : Int → Int → Bool} {r : R2} (hr : r = rI0 fun i j => .bl (g i j)) {f : D → D → Option D}
    (hf : ∀ a b, f a b = match a, b with | .int i, .int j => some (.bl (g i j)) | _, _ => none) : Op2 F f r := by
  intro G H σ ρ O x y a b d Q E va vb e w
  rw [hf] at e
  subst hr
  split at e
  · rename_i i j
    cases e
    exact ⟨i, j, va.int', vb.int', w _ _ _ _ E strf rv_bl⟩
  · cases e
end

/-! ### the operations as data -/
instance (i j : Int) : Decidable (CMul i j) := by unfold CMul; infer_instance
instance (i j : Int) : Decidable (CMulX i j) := by unfold CMulX; infer_instance
instance (i j : Int) : Decidable (CShl i j) := by unfold CShl; infer_instance
instance (i j : Int) : Decidable (CPow i j) := by unfold CPow; infer_instance
instance (i j : Int) : Decidable (CDiv i j) := by unfold CDiv; infer_instance
instance (i j : Int) : Decidable (CDivW i j) := by unfold CDivW; infer_instance

def addD : D → D → Option D
  | .int i, .int j => some (.int (i + j))
  | .str a, .str b => if a.length + b.length ≤ sizeLine then some (.str (a ++ b)) else none
  | .tup a, .tup b => if a.length + b.length ≤ sizeLine then some (.tup (a ++ b)) else none
  | .lst a, .lst b => if a.length + b.length ≤ sizeLine then some (.lst (a ++ b)) else none
  | _, _ => none
def subD : D → D → Option D
  | .int i, .int j => some (.int (i - j))
  | _, _ => none
def MulOk (i j : Int) : Prop := CMul i j ∨ CMulX i j
instance (i j : Int) : Decidable (MulOk i j) := by unfold MulOk; infer_instance
def mulD : D → D → Option D
  | .int i, .int j => if MulOk i j then some (.int (i * j)) else none
  | .lst a, .int k => if -(2 ^ 63) ≤ k ∧ k < 2 ^ 63 ∧ a.length * k.toNat ≤ sizeLine then some (.lst (List.replicate k.toNat a).flatten) else none
  | .tup a, .int k => if -(2 ^ 63) ≤ k ∧ k < 2 ^ 63 ∧ a.length * k.toNat ≤ 16000000 then some (.tup (List.replicate k.toNat a).flatten) else none
  | .str a, .int k => if -(2 ^ 63) ≤ k ∧ k < 2 ^ 63 ∧ a.length * k.toNat ≤ 16000000 then some (.str ⟨((List.replicate k.toNat a.cps.toList).flatten).toArray⟩) else none
  | _, _ => none
def fdivD : D → D → Option D
  | .int i, .int j => if CDiv i j then some (.int (i / j)) else if CDivW i j then some (.int (i / j)) else none
  | _, _ => none
def modD : D → D → Option D
  | .int i, .int j => if 0 < j then some (.int (i % j)) else none
  | _, _ => none
def powD : D → D → Option D
  | .int i, .int j => if CPow i j then some (.int (i ^ j.toNat)) else none
  | _, _ => none
def shlD : D → D → Option D
  | .int i, .int j => if CShl i j then some (.int (i * 2 ^ j.toNat)) else none
  | _, _ => none
def shrD : D → D → Option D
  | .int i, .int j => if 0 ≤ j then some (.int (i / 2 ^ j.toNat)) else none
  | _, _ => none
def andD : D → D → Option D
  | .int i, .int j => some (.int (Builtin.bitAnd i j))
  | _, _ => none
def orD : D → D → Option D
  | .int i, .int j => some (.int (Builtin.bitOr i j))
  | _, _ => none
def xorD : D → D → Option D
  | .int i, .int j => some (.int (Builtin.bitXor i j))
  | _, _ => none

section
variable {X : Cx} {F : Fx}
theorem op2_add (hK : X.K = F.K) : ∃ r, OpR X (binaryOp .Add) r ∧ Op2 F addD r := by
  refine ⟨_, op_add.or (op_add_str.or (op_catA.or op_cat)), ?_⟩
  intro G H σ ρ O x y a b d Q E va vb e w
  unfold addD at e
  split at e
  · cases e
    exact .inl ⟨_, _, va.int', vb.int', w _ _ _ _ E strf rv_int⟩
  · split at e
    · rename_i hz
      cases e
      exact .inr (.inl ⟨_, _, va.str', vb.str', hz, w _ _ _ _ E strf rv_str⟩)
    · cases e
  · split at e
    · rename_i u z hz
      cases e
      obtain ⟨p, xs, rfl, h1, h2⟩ := va.tup'
      obtain ⟨q, ys, rfl, h3, h4⟩ := vb.tup'
      refine .inr (.inr (.inl ⟨p, q, xs, ys, rfl, rfl, ?_, ?_, by rw [h2.length, h4.length]; exact hz, fun e => ?_, fun _ e => ?_, fun _ _ => E.new_tup (h2.append h4) w⟩))
      · rw [hK]; exact sqT_up E.gh h1
      · rw [hK]; exact sqT_up E.gh h3
      · subst e
        cases h2
        exact w _ _ _ _ E strf (rv_val rfl (.tup h3 h4))
      · subst e
        cases h4
        rw [List.append_nil] at w
        exact w _ _ _ _ E strf (rv_val rfl (.tup h1 h2))
    · cases e
  · split at e
    · rename_i u z hz
      cases e
      obtain ⟨p, xs, rfl, h1, h2⟩ := va.lst' E.gh
      obtain ⟨q, ys, rfl, h3, h4⟩ := vb.lst' E.gh
      exact .inr (.inr (.inr ⟨p, q, xs, ys, rfl, rfl, h1, h3, by rw [h2.length, h4.length]; exact hz, E.new_lst (h2.append h4) w⟩))
    · cases e
  · cases e
theorem op2_sub : ∃ r, OpR X (binaryOp .Sub) r ∧ Op2 F subD r := by
  refine ⟨_, op_sub, ?_⟩
  intro G H σ ρ O x y a b d Q E va vb e w
  unfold subD at e
  split at e
  · cases e
    exact ⟨_, _, va.int', vb.int', w _ _ _ _ E strf rv_int⟩
  · cases e
theorem op2_fdiv : ∃ r, OpR X (binaryOp .FloorDiv) r ∧ Op2 F fdivD r := by
  refine ⟨_, op_fdiv.or op_fdivW, ?_⟩
  intro G H σ ρ O x y a b d Q E va vb e w
  unfold fdivD at e
  split at e
  · split at e
    · rename_i hc
      cases e
      exact .inl ⟨_, _, va.int', vb.int', hc, w _ _ _ _ E strf rv_int⟩
    · split at e
      · rename_i hc
        cases e
        exact .inr ⟨_, _, va.int', vb.int', hc, w _ _ _ _ E strf rv_int⟩
      · cases e
  · cases e
theorem op2_mod : ∃ r, OpR X (binaryOp .Mod) r ∧ Op2 F modD r := by
  refine ⟨_, op_mod, ?_⟩
  intro G H σ ρ O x y a b d Q E va vb e w
  unfold modD at e
  split at e
  · split at e
    · rename_i hc
      cases e
      exact ⟨_, _, va.int', vb.int', hc, w _ _ _ _ E strf rv_int⟩
    · cases e
  · cases e
theorem op2_pow : ∃ r, OpR X (binaryOp .Pow) r ∧ Op2 F powD r := ⟨_, op_pow, op2_int rfl fun a b => by unfold powD; rfl⟩
theorem op2_shl : ∃ r, OpR X (binaryOp .LShift) r ∧ Op2 F shlD r := ⟨_, op_shlW, op2_int rfl fun a b => by unfold shlD; rfl⟩
theorem op2_shr : ∃ r, OpR X (binaryOp .RShift) r ∧ Op2 F shrD r := ⟨_, op_shr, op2_int rfl fun a b => by unfold shrD; rfl⟩
theorem op2_band : ∃ r, OpR X (binaryOp .BitAnd) r ∧ Op2 F andD r := by
  refine ⟨_, op_and, ?_⟩
  intro G H σ ρ O x y a b d Q E va vb e w
  unfold andD at e
  split at e
  · cases e
    exact ⟨_, _, va.int', vb.int', w _ _ _ _ E strf rv_int⟩
  · cases e
theorem op2_bor : ∃ r, OpR X (binaryOp .BitOr) r ∧ Op2 F orD r := by
  refine ⟨_, op_or, ?_⟩
  intro G H σ ρ O x y a b d Q E va vb e w
  unfold orD at e
  split at e
  · cases e
    exact ⟨_, _, va.int', vb.int', w _ _ _ _ E strf rv_int⟩
  · cases e
theorem op2_bxor : ∃ r, OpR X (binaryOp .BitXor) r ∧ Op2 F xorD r := by
  refine ⟨_, op_xor, ?_⟩
  intro G H σ ρ O x y a b d Q E va vb e w
  unfold xorD at e
  split at e
  · cases e
    exact ⟨_, _, va.int', vb.int', w _ _ _ _ E strf rv_int⟩
  · cases e
theorem rp_rep {K : Frg} {H : Hp} {xs : List V} {ds : List D} (h : RpAll K H xs ds) : ∀ n : Nat, RpAll K H (List.replicate n xs).flatten (List.replicate n ds).flatten
  | 0 => .nil
  | n + 1 => by rw [List.replicate_succ, List.replicate_succ, List.flatten_cons, List.flatten_cons]; exact h.append (rp_rep h n)
theorem op2_mul (hK : X.K = F.K) : ∃ r, OpR X (binaryOp .Mult) r ∧ Op2 F mulD r := by
  refine ⟨_, op_mul.or (op_mulX.or (op_rep.or (op_repTA.or op_repS))), ?_⟩
  intro G H σ ρ O x y a b d Q E va vb e w
  unfold mulD at e
  split at e
  · split at e
    · rename_i i j hc
      cases e
      rcases hc with hc | hc
      · exact .inl ⟨_, _, va.int', vb.int', hc, w _ _ _ _ E strf rv_int⟩
      · exact .inr (.inl ⟨_, _, va.int', vb.int', hc, w _ _ _ _ E strf rv_int⟩)
    · cases e
  · split at e
    · rename_i u k hc
      cases e
      obtain ⟨p, xs, rfl, h1, h2⟩ := va.lst' E.gh
      exact .inr (.inr (.inl ⟨p, k, xs, rfl, vb.int', h1, hc.1, hc.2.1, by rw [h2.length]; exact hc.2.2, E.new_lst (rp_rep h2 _) w⟩))
    · cases e
  · split at e
    · rename_i u k hc
      cases e
      obtain ⟨p, xs, rfl, h1, h2⟩ := va.tup'
      refine .inr (.inr (.inr (.inl ⟨p, k, xs, rfl, vb.int', by rw [hK]; exact sqT_up E.gh h1, hc.1, hc.2.1, by rw [h2.length]; exact hc.2.2, fun e => ?_, fun _ => E.new_tup (rp_rep h2 _) w⟩)))
      rcases e with e | e
      · subst e
        cases h2
        refine w _ _ _ _ E strf (rv_val rfl (.tup h1 ?_))
        have := rp_rep (K := F.K) (H := G) .nil k.toNat
        rw [show (List.replicate k.toNat ([] : List V)).flatten = [] by simp] at this
        exact this
      · subst e
        refine w _ _ _ _ E strf (rv_val rfl (.tup h1 ?_))
        have := rp_rep h2 1
        rw [show (List.replicate 1 xs).flatten = xs by simp [List.replicate]] at this
        exact this
    · cases e
  · split at e
    · rename_i u k hc
      cases e
      exact .inr (.inr (.inr (.inr ⟨_, _, va.str', vb.int', hc.1, hc.2.1, hc.2.2, w _ _ _ _ E strf rv_str⟩)))
    · cases e
  · cases e
def op2D : Operator → Option (D → D → Option D)
  | .Add => some addD | .Sub => some subD | .Mult => some mulD | .FloorDiv => some fdivD | .Mod => some modD | .Pow => some powD
  | .LShift => some shlD | .RShift => some shrD | .BitAnd => some andD | .BitOr => some orD | .BitXor => some xorD | _ => none
theorem op2_ok (hK : X.K = F.K) {op : Operator} {f : D → D → Option D} (h : op2D op = some f) : ∃ r, OpR X (binaryOp op) r ∧ Op2 F f r := by
  cases op <;> simp only [op2D, Option.some.injEq, reduceCtorEq] at h <;> subst h
  · exact op2_add hK
  · exact op2_sub
  · exact op2_mul hK
  · exact op2_mod
  · exact op2_pow
  · exact op2_shl
  · exact op2_shr
  · exact op2_bor
  · exact op2_bxor
  · exact op2_band
  · exact op2_fdiv
end
end Dv
namespace Dv
open PySem L2 PyProof.Rows

/-! ### operands: a name is looked up when all others are there -/
inductive Opd where
  | ex (m : M D) | va (i : Nat)
def slD : Option Sl → Option D
  | some (.val d) => some d
  | some (.own d) => some d
  | _ => none
def evO : List Opd → M (List D)
  | [] => fun ρ => .ok [] ρ
  | .ex m :: os => fun ρ => (m ρ).bind fun d ρ1 => (evO os ρ1).bind fun ds ρ2 => .ok (d :: ds) ρ2
  | .va i :: os => fun ρ => match slD ρ[i]? with
    | none => .bad
    | some _ => (evO os ρ).bind fun ds ρ2 => match slD ρ2[i]? with
      | some d => .ok (d :: ds) ρ2
      | none => .bad
/-- what has come of operands -/
inductive Avs (K : Frg) (G : Hp) (σ : L2.St) (ρ : En) : List Opd → List V → List D → Prop
  | nil : Avs K G σ ρ [] [] []
  | ex {m os v vs d ds} : Rp K G v d → Avs K G σ ρ os vs ds → Avs K G σ ρ (.ex m :: os) (v :: vs) (d :: ds)
  | va {i os v vs d ds} : σ[i]? = some (some v) → slD ρ[i]? = some d → Avs K G σ ρ os vs ds → Avs K G σ ρ (.va i :: os) (v :: vs) (d :: ds)
inductive VwAll (K : Frg) (G H : Hp) : List V → List D → Prop
  | nil : VwAll K G H [] []
  | cons {v vs d ds} : Vw K G H v d → VwAll K G H vs ds → VwAll K G H (v :: vs) (d :: ds)
section
variable {F : Fx} {G H : Hp} {σ : L2.St} {ρ : En} {O : Nat → List Addr}
theorem slD_cases {o : Option Sl} {d : D} (h : slD o = some d) : o = some (.val d) ∨ o = some (.own d) := by
  unfold slD at h
  split at h
  · cases h; exact .inl rfl
  · cases h; exact .inr rfl
  · cases h
theorem Er.slot (E : Er F G H σ ρ O) {i : Nat} {d : D} (h : slD ρ[i]? = some d) : ∃ v, σ[i]? = some (some v) ∧ Vw F.K G H v d := by
  rcases slD_cases h with e | e
  · obtain ⟨v, a, b⟩ := E.val i d e
    exact ⟨v, a, .inl b⟩
  · obtain ⟨p, o, h1, h2, h3, h4, h5, h6⟩ := E.own i d e
    exact ⟨_, h1, .inr ⟨p, o, rfl, h3, h6⟩⟩
theorem Avs.vw (E : Er F G H σ ρ O) : ∀ {os vs ds}, Avs F.K G σ ρ os vs ds → VwAll F.K G H vs ds
  | _, _, _, .nil => .nil
  | _, _, _, .ex a t => .cons (.inl a) (Avs.vw E t)
  | _, _, _, .va a b t => by
    obtain ⟨v, h1, h2⟩ := E.slot b
    rw [a] at h1
    cases h1
    exact .cons h2 (Avs.vw E t)
theorem Avs.up {K : Frg} {G G' : Hp} {σ : L2.St} {ρ : En} (e : Same G G') : ∀ {os vs ds}, Avs K G σ ρ os vs ds → Avs K G' σ ρ os vs ds
  | _, _, _, .nil => .nil
  | _, _, _, .ex a t => .ex (a.up e) (Avs.up e t)
  | _, _, _, .va a b t => .va a b (Avs.up e t)
end
def rdO (F : Fx) (os : List Opd) : TA := fun σ H Q => ∃ G ρ O, Er F G H σ ρ O ∧ match evO os ρ with
  | .ok ds ρ' => ∀ vs G' H' O', Er F G' H' σ ρ' O' → Stp ρ O G H ρ' O' G' H' → Avs F.K G' σ ρ' os vs ds → Q vs H'
  | .exc x ρ' => Xc F σ x ρ' G
  | .bad => False
def tList : List TE → TA
  | [] => tNil
  | t :: ts => tCons t (tList ts)
/-- an operand is read -/
inductive Op1 (F : Fx) (X : Cx) (e : Expr) : Opd → TE → Prop
  | va {i : Nat} : PE X e (tVar i) → Op1 F X e (.va i) (tVar i)
  | ex {m : M D} {fr : Bool} : PE X e (rdE F m fr) → Op1 F X e (.ex m) (rdE F m fr)
inductive Ops (F : Fx) (X : Cx) : List Expr → List Opd → List TE → Prop
  | nil : Ops F X [] [] []
  | cons {e es o os t ts} : Op1 F X e o t → Ops F X es os ts → Ops F X (e :: es) (o :: os) (t :: ts)
theorem Op1.pe {F : Fx} {X : Cx} {e : Expr} {o : Opd} {t : TE} (h : Op1 F X e o t) : PE X e t := by
  cases h <;> assumption
theorem Ops.run {F : Fx} {X : Cx} : ∀ {es os ts}, Ops F X es os ts → ∀ σ H Q, rdO F os σ H Q → tList ts σ H Q
  | _, _, _, .nil, σ, H, Q, ⟨G, ρ, O, E, h⟩ => h [] G H O E strf .nil
  | _, _, _, .cons (.ex (m := m) he) r, σ, H, Q, ⟨G, ρ, O, E, h⟩ => by
    refine rdE_hold ⟨G, ρ, O, E, ?_⟩
    unfold evO at h
    cases e1 : m ρ with
    | bad => rw [e1] at h; exact h
    | exc x ρ1 => rw [e1] at h; exact h
    | ok d ρ1 =>
      rw [e1] at h
      intro v G1 H1 O1 E1 s1 r1
      refine Ops.run r σ H1 _ ⟨G1, ρ1, O1, E1, ?_⟩
      simp only [R.bind_ok] at h
      rename_i os _ _
      cases e2 : evO os ρ1 with
      | bad => rw [e2] at h; exact h
      | exc x ρ2 => rw [e2] at h; exact Xc.up h s1.g
      | ok ds ρ2 =>
        rw [e2] at h
        intro vs G2 H2 O2 E2 s2 a2
        exact h _ G2 H2 O2 E2 (s1.trans s2) (.ex (r1.up s2.g) a2)
  | _, _, _, .cons (.va (i := i) he) r, σ, H, Q, ⟨G, ρ, O, E, h⟩ => by
    unfold evO at h
    cases e1 : slD ρ[i]? with
    | none => rw [e1] at h; exact h.elim
    | some d0 =>
      rw [e1] at h
      obtain ⟨v, hv, _⟩ := E.slot e1
      refine ⟨v, hv, Ops.run r σ H _ ⟨G, ρ, O, E, ?_⟩⟩
      simp only at h
      rename_i os _ _
      cases e2 : evO os ρ with
      | bad => rw [e2] at h; exact h
      | exc x ρ2 => rw [e2] at h; exact h
      | ok ds ρ2 =>
        rw [e2] at h
        intro vs G2 H2 O2 E2 s2 a2
        simp only [R.bind_ok] at h
        cases e3 : slD ρ2[i]? with
        | none => rw [e3] at h; exact h.elim
        | some d =>
          rw [e3] at h
          exact h _ G2 H2 O2 E2 s2 (.va hv e3 a2)

/-! ### kinds of expressions -/
def plainE : Expr → Bool
  | .Starred _ _ => false
  | .Slice _ _ _ _ => false
  | .Set _ _ _ => false
  | _ => true
theorem star_of {e : Expr} (h : plainE e = true) (es : List Expr) (env : PySem.Env) : starEach (e :: es) env = (false, eval e env) :: starEach es env := by
  cases e <;> first | rfl | cases h
theorem pa_list {F : Fx} {X : Cx} : ∀ {es os ts}, Ops F X es os ts → es.all plainE = true → PA X es (tList ts)
  | _, _, _, .nil, _ => pa_nil
  | _, _, _, .cons h r, p => by
    rw [List.all_cons, Bool.and_eq_true] at p
    exact pa_cons h.pe (pa_list r p.2) (star_of p.1 _ _)
theorem nostar : ∀ {es : List Expr} (env : PySem.Env) (pos : Pos), es.all plainE = true → (backTo pos (starEach es env)).any (·.1) = false := by
  intro es env pos p
  have h : ∀ es : List Expr, es.all plainE = true → ∀ q ∈ starEach es env, q.1 = false := by
    intro es
    induction es with
    | nil => intro _ q hq; cases hq
    | cons e es ih =>
      intro p q hq
      rw [List.all_cons, Bool.and_eq_true] at p
      rw [star_of p.1] at hq
      rcases List.mem_cons.mp hq with rfl | hq
      · rfl
      · exact ih p.2 q hq
  have h' := h es p
  generalize starEach es env = l at h'
  unfold backTo
  induction l with
  | nil => rfl
  | cons q r ih =>
    first
      | (rw [List.map_cons, List.any_cons, ih fun q hq => h' q (List.mem_cons_of_mem _ hq)]; simp [h' q List.mem_cons_self])
      | simp_all
end Dv
namespace Dv
open PySem L2 PyProof.Rows

/-! ### data for == at any depth -/
mutual
def toPy : D → PyData
  | .non => .none
  | .bl b => .bool b
  | .int i => .int i
  | .str s => .str s
  | .tup xs => .tuple (toPys xs)
  | .lst xs => .list (toPys xs)
  | .dic _ _ => .dict []
  | .scr ns => .list (ns.map PyData.int)
def toPys : List D → List PyData
  | [] => []
  | d :: ds => toPy d :: toPys ds
end
mutual
/-- no dict in it -/
def nodic : D → Bool
  | .dic _ _ => false
  | .tup xs => nodics xs
  | .lst xs => nodics xs
  | _ => true
def nodics : List D → Bool
  | [] => true
  | d :: ds => nodic d && nodics ds
end
theorem dpAll_ints {K : Frg} {H : Hp} : ∀ ns : List Int, DpAll K H (ns.map V.int) (ns.map PyData.int)
  | [] => .nil
  | n :: r => .cons (.int n) (dpAll_ints r)
mutual
theorem rp_dp {K : Frg} {H : Hp} : ∀ (d : D) (v : V), nodic d = true → Rp K H v d → L2.Dp K H v (toPy d)
  | .non, _, _, h => by cases h; exact .non
  | .bl b, _, _, h => by cases h; exact .bl b
  | .int i, _, _, h => by cases h; exact .int i
  | .str x, _, _, h => by cases h; exact .str x
  | .tup ds, _, n, h => by
    cases h with
    | tup h1 h2 => exact .tup h1 (rp_dps ds _ (by simpa [nodic] using n) h2)
  | .lst ds, _, n, h => by
    cases h with
    | lst h1 h2 => exact .lst (.inl (.inl h1)) (rp_dps ds _ (by simpa [nodic] using n) h2)
  | .dic _ _, _, n, _ => by simp [nodic] at n
  | .scr ns, _, _, h => by
    cases h with
    | scr h1 => exact .lst h1 (dpAll_ints ns)
theorem rp_dps {K : Frg} {H : Hp} : ∀ (ds : List D) (vs : List V), nodics ds = true → RpAll K H vs ds → L2.DpAll K H vs (toPys ds)
  | [], _, _, h => by cases h; exact .nil
  | d :: ds, _, n, h => by
    cases h with
    | cons h1 h2 =>
      have n' : nodic d = true ∧ nodics ds = true := by simpa [nodics] using n
      exact .cons (rp_dp d _ n'.1 h1) (rp_dps ds _ n'.2 h2)
end
def shaped? (d : D) : Bool := nodic d && SeqAt.shaped (toPy d)

/-! ### comparisons as data -/
def eqB : D → D → Option Bool
  | .int i, .int j => some (decide (i = j))
  | .bl i, .bl j => some (decide (i = j))
  | .str i, .str j => some (decide (i = j))
  | a, b => if shaped? a && shaped? b then some (PyData.eqv (toPy a) (toPy b)) else none
def eqD (a b : D) : Option D := (eqB a b).map D.bl
def neD (a b : D) : Option D := (eqB a b).map fun c => D.bl (!c)
def ltD : D → D → Option D
  | .int i, .int j => some (.bl (decide (i < j)))
  | .str i, .str j => some (.bl (decide (i.cps.toList < j.cps.toList)))
  | _, _ => none
def leD : D → D → Option D
  | .int i, .int j => some (.bl (decide (i ≤ j)))
  | .str i, .str j => some (.bl (!decide (j.cps.toList < i.cps.toList)))
  | _, _ => none
def gtD : D → D → Option D
  | .int i, .int j => some (.bl (decide (j < i)))
  | .str i, .str j => some (.bl (decide (j.cps.toList < i.cps.toList)))
  | _, _ => none
def geD : D → D → Option D
  | .int i, .int j => some (.bl (decide (j ≤ i)))
  | .str i, .str j => some (.bl (!decide (i.cps.toList < j.cps.toList)))
  | _, _ => none
def isNon : D → Bool
  | .non => true
  | _ => false
def isD : D → D → Option D
  | a, .non => some (.bl (isNon a))
  | _, _ => none
def isntD : D → D → Option D
  | a, .non => some (.bl (!isNon a))
  | _, _ => none
def inB : D → D → Option Bool
  | d, .lst xs => if shaped? d && shaped? (.lst xs) then some (xs.any fun z => PyData.eqv (toPy z) (toPy d)) else none
  | .int i, .tup xs => if xs.all (fun z => match z with | .int _ => true | _ => false) then some (xs.any fun z => match z with | .int j => j == i | _ => false) else none
  | .str i, .tup xs => if xs.all (fun z => match z with | .str _ => true | _ => false) then some (xs.any fun z => match z with | .str j => j == i | _ => false) else none
  | .int i, .dic ks _ => some (ks.any fun k => match k with | .inl j => j == i | _ => false)
  | .str i, .dic ks _ => some (ks.any fun k => match k with | .inr j => j == i | _ => false)
  | _, _ => none
def inD (a b : D) : Option D := (inB a b).map D.bl
def notinD (a b : D) : Option D := (inB a b).map fun c => D.bl (!c)
section
variable {X : Cx} {F : Fx}
theorem eqB_cases {a b : D} {c : Bool} (h : eqB a b = some c) : (∃ i j, a = .int i ∧ b = .int j ∧ c = decide (i = j)) ∨ (∃ i j, a = .bl i ∧ b = .bl j ∧ c = decide (i = j)) ∨ (∃ i j, a = .str i ∧ b = .str j ∧ c = decide (i = j)) ∨
    (shaped? a = true ∧ shaped? b = true ∧ c = PyData.eqv (toPy a) (toPy b)) := by
  unfold eqB at h
  split at h
  · cases h; exact .inl ⟨_, _, rfl, rfl, rfl⟩
  · cases h; exact .inr (.inl ⟨_, _, rfl, rfl, rfl⟩)
  · cases h; exact .inr (.inr (.inl ⟨_, _, rfl, rfl, rfl⟩))
  · split at h
    · rename_i hc
      cases h
      exact .inr (.inr (.inr ⟨(Bool.and_eq_true_iff.mp hc).1, (Bool.and_eq_true_iff.mp hc).2, rfl⟩))
    · cases h
theorem shaped_dp {K : Frg} {H : Hp} {v : V} {d : D} (h : shaped? d = true) (r : Rp K H v d) : L2.Dp K H v (toPy d) ∧ SeqAt.shaped (toPy d) = true :=
  ⟨rp_dp d v (Bool.and_eq_true_iff.mp h).1 r, (Bool.and_eq_true_iff.mp h).2⟩
theorem dec_v {α : Type} [DecidableEq α] {f : α → V} (hf : ∀ a b, f a = f b → a = b) (i j : α) : decide (f i = f j) = decide (i = j) := by
  by_cases h : i = j
  · subst h; simp
  · rw [decide_eq_false h, decide_eq_false fun e => h (hf _ _ e)]
theorem op2_eq (hK : X.K = F.K) (hu : X.A.units + 64 < cLine) : ∃ r, OpR X (compareOp .Eq) r ∧ Op2 F eqD r := by
  refine ⟨_, op_eq.or (op_eqD hu), ?_⟩
  intro G H σ ρ O x y a b d Q E va vb e w
  unfold eqD at e
  cases e1 : eqB a b with
  | none => rw [e1] at e; cases e
  | some c =>
    rw [e1] at e
    cases e
    rcases eqB_cases e1 with ⟨i, j, rfl, rfl, rfl⟩ | ⟨i, j, rfl, rfl, rfl⟩ | ⟨i, j, rfl, rfl, rfl⟩ | ⟨h1, h2, rfl⟩
    · refine .inl ⟨by rw [va.int', vb.int']; rfl, ?_⟩
      rw [va.int', vb.int', dec_v (f := V.int) (fun _ _ e => V.int.inj e)]
      exact w _ _ _ _ E strf rv_bl
    · refine .inl ⟨by rw [va.bl', vb.bl']; rfl, ?_⟩
      rw [va.bl', vb.bl', dec_v (f := V.bl) (fun _ _ e => V.bl.inj e)]
      exact w _ _ _ _ E strf rv_bl
    · refine .inl ⟨by rw [va.str', vb.str']; rfl, ?_⟩
      rw [va.str', vb.str', dec_v (f := V.str) (fun _ _ e => V.str.inj e)]
      exact w _ _ _ _ E strf rv_bl
    · obtain ⟨p1, p2⟩ := shaped_dp h1 (va.rp E.gh)
      obtain ⟨q1, q2⟩ := shaped_dp h2 (vb.rp E.gh)
      exact .inr ⟨_, _, by rw [hK]; exact p1, by rw [hK]; exact q1, p2, q2, w _ _ _ _ E strf rv_bl⟩
theorem op2_ne (hK : X.K = F.K) (hu : X.A.units + 64 < cLine) : ∃ r, OpR X (compareOp .NotEq) r ∧ Op2 F neD r := by
  refine ⟨_, op_ne.or (op_neD hu), ?_⟩
  intro G H σ ρ O x y a b d Q E va vb e w
  unfold neD at e
  cases e1 : eqB a b with
  | none => rw [e1] at e; cases e
  | some c =>
    rw [e1] at e
    cases e
    rcases eqB_cases e1 with ⟨i, j, rfl, rfl, rfl⟩ | ⟨i, j, rfl, rfl, rfl⟩ | ⟨i, j, rfl, rfl, rfl⟩ | ⟨h1, h2, rfl⟩
    · refine .inl ⟨by rw [va.int', vb.int']; rfl, ?_⟩
      rw [va.int', vb.int', dec_v (f := V.int) (fun _ _ e => V.int.inj e)]
      exact w _ _ _ _ E strf rv_bl
    · refine .inl ⟨by rw [va.bl', vb.bl']; rfl, ?_⟩
      rw [va.bl', vb.bl', dec_v (f := V.bl) (fun _ _ e => V.bl.inj e)]
      exact w _ _ _ _ E strf rv_bl
    · refine .inl ⟨by rw [va.str', vb.str']; rfl, ?_⟩
      rw [va.str', vb.str', dec_v (f := V.str) (fun _ _ e => V.str.inj e)]
      exact w _ _ _ _ E strf rv_bl
    · obtain ⟨p1, p2⟩ := shaped_dp h1 (va.rp E.gh)
      obtain ⟨q1, q2⟩ := shaped_dp h2 (vb.rp E.gh)
      exact .inr ⟨_, _, by rw [hK]; exact p1, by rw [hK]; exact q1, p2, q2, w _ _ _ _ E strf rv_bl⟩
theorem op2_lt : ∃ r, OpR X (compareOp .Lt) r ∧ Op2 F ltD r := by
  refine ⟨_, op_lt.or op_lt_str, ?_⟩
  intro G H σ ρ O x y a b d Q E va vb e w
  unfold ltD at e
  split at e
  · cases e; exact .inl ⟨_, _, va.int', vb.int', w _ _ _ _ E strf rv_bl⟩
  · cases e; exact .inr ⟨_, _, va.str', vb.str', w _ _ _ _ E strf rv_bl⟩
  · cases e
theorem op2_le : ∃ r, OpR X (compareOp .LtE) r ∧ Op2 F leD r := by
  refine ⟨_, op_le.or op_le_str, ?_⟩
  intro G H σ ρ O x y a b d Q E va vb e w
  unfold leD at e
  split at e
  · cases e; exact .inl ⟨_, _, va.int', vb.int', w _ _ _ _ E strf rv_bl⟩
  · cases e; exact .inr ⟨_, _, va.str', vb.str', w _ _ _ _ E strf rv_bl⟩
  · cases e
theorem op2_gt : ∃ r, OpR X (compareOp .Gt) r ∧ Op2 F gtD r := by
  refine ⟨_, op_gt.or op_gt_str, ?_⟩
  intro G H σ ρ O x y a b d Q E va vb e w
  unfold gtD at e
  split at e
  · cases e; exact .inl ⟨_, _, va.int', vb.int', w _ _ _ _ E strf rv_bl⟩
  · cases e; exact .inr ⟨_, _, va.str', vb.str', w _ _ _ _ E strf rv_bl⟩
  · cases e
theorem op2_ge : ∃ r, OpR X (compareOp .GtE) r ∧ Op2 F geD r := by
  refine ⟨_, op_ge.or op_ge_str, ?_⟩
  intro G H σ ρ O x y a b d Q E va vb e w
  unfold geD at e
  split at e
  · cases e; exact .inl ⟨_, _, va.int', vb.int', w _ _ _ _ E strf rv_bl⟩
  · cases e; exact .inr ⟨_, _, va.str', vb.str', w _ _ _ _ E strf rv_bl⟩
  · cases e
theorem vw_non {K : Frg} {G H : Hp} {x : V} {a : D} (h : Vw K G H x a) : decide (x = .non) = isNon a := by
  rcases h with h | ⟨p, o, rfl, _, h⟩
  · cases h <;> simp [isNon]
  · cases h <;> simp [isNon]
theorem op2_is : ∃ r, OpR X (compareOp .Is) r ∧ Op2 F isD r := by
  refine ⟨_, op_isN, ?_⟩
  intro G H σ ρ O x y a b d Q E va vb e w
  unfold isD at e
  split at e
  · cases e
    refine ⟨vb.non', ?_⟩
    rw [vw_non va]
    exact w _ _ _ _ E strf rv_bl
  · cases e
theorem op2_isnt : ∃ r, OpR X (compareOp .IsNot) r ∧ Op2 F isntD r := by
  refine ⟨_, op_notN, ?_⟩
  intro G H σ ρ O x y a b d Q E va vb e w
  unfold isntD at e
  split at e
  · cases e
    refine ⟨vb.non', ?_⟩
    rw [vw_non va]
    exact w _ _ _ _ E strf rv_bl
  · cases e
theorem rp_intall {K : Frg} {H : Hp} (i : Int) : ∀ {xs : List V} {ds : List D}, RpAll K H xs ds → ds.all (fun z => match z with | .int _ => true | _ => false) = true →
    xs.all flatV = true ∧ inV (.int i) xs = ds.any fun z => match z with | .int j => j == i | _ => false
  | _, _, .nil, _ => ⟨rfl, rfl⟩
  | _, _, .cons h t, q => by
    rw [List.all_cons, Bool.and_eq_true] at q
    obtain ⟨a, b⟩ := rp_intall i t q.2
    have q1 := q.1
    cases h <;> simp only [Bool.false_eq_true] at q1
    refine ⟨by rw [List.all_cons, a]; rfl, ?_⟩
    rw [List.any_cons, ← b]
    rfl
theorem rp_strall {K : Frg} {H : Hp} (i : Str) : ∀ {xs : List V} {ds : List D}, RpAll K H xs ds → ds.all (fun z => match z with | .str _ => true | _ => false) = true →
    xs.all flatV = true ∧ inV (.str i) xs = ds.any fun z => match z with | .str j => j == i | _ => false
  | _, _, .nil, _ => ⟨rfl, rfl⟩
  | _, _, .cons h t, q => by
    rw [List.all_cons, Bool.and_eq_true] at q
    obtain ⟨a, b⟩ := rp_strall i t q.2
    have q1 := q.1
    cases h <;> simp only [Bool.false_eq_true] at q1
    refine ⟨by rw [List.all_cons, a]; rfl, ?_⟩
    rw [List.any_cons, ← b]
    rfl
theorem toPys_any (d : D) : ∀ xs : List D, (toPys xs).any (fun z => PyData.eqv z (toPy d)) = xs.any fun z => PyData.eqv (toPy z) (toPy d)
  | [] => rfl
  | x :: r => by simp only [toPys, List.any_cons, toPys_any d r]
/-- the flat and the deep one, both signs -/
def rInA (K : Frg) (neg : Bool) : R2 := fun x y H Q => rIn K neg x y H Q ∨ (if neg then rNotInD K x y H Q else rInD K x y H Q)
theorem inB_ok (hK : X.K = F.K) {neg : Bool} {G H σ ρ O x y a b c} {Q : VK} (E : Er F G H σ ρ O) (va : Vw F.K G H x a) (vb : Vw F.K G H y b) (e : inB a b = some c) (nd : ∀ ks ds, b ≠ .dic ks ds) (w : Wants F G H σ ρ O true (.bl (if neg then !c else c)) Q) : rInA X.K neg x y H Q := by
  unfold inB at e
  split at e
  · split at e
    · rename_i d xs hc
      cases e
      obtain ⟨h1, h2⟩ := Bool.and_eq_true_iff.mp hc
      obtain ⟨p1, p2⟩ := shaped_dp h1 (va.rp E.gh)
      obtain ⟨q1, q2⟩ := shaped_dp h2 (vb.rp E.gh)
      have q1' : L2.Dp F.K H y (.list (toPys xs)) := by simpa [toPy] using q1
      have q2' : SeqAt.shaped (.list (toPys xs)) = true := by simpa [toPy] using q2
      refine .inr ?_
      cases neg with
      | false =>
        refine ⟨_, _, by rw [hK]; exact p1, by rw [hK]; exact q1', p2, q2', ?_⟩
        rw [toPys_any]
        exact w _ _ _ _ E strf rv_bl
      | true =>
        refine ⟨_, _, by rw [hK]; exact p1, by rw [hK]; exact q1', p2, q2', ?_⟩
        rw [toPys_any]
        exact w _ _ _ _ E strf rv_bl
    · cases e
  · split at e
    · rename_i i xs hc
      cases e
      obtain ⟨p, vs, rfl, h1, h2⟩ := vb.tup'
      obtain ⟨f1, f2⟩ := rp_intall i h2 hc
      refine .inl ⟨p, vs, rfl, .inr (by rw [hK]; exact sqT_up E.gh h1), by rw [va.int']; rfl, f1, ?_⟩
      rw [va.int', f2]
      exact w _ _ _ _ E strf rv_bl
    · cases e
  · split at e
    · rename_i i xs hc
      cases e
      obtain ⟨p, vs, rfl, h1, h2⟩ := vb.tup'
      obtain ⟨f1, f2⟩ := rp_strall i h2 hc
      refine .inl ⟨p, vs, rfl, .inr (by rw [hK]; exact sqT_up E.gh h1), by rw [va.str']; rfl, f1, ?_⟩
      rw [va.str', f2]
      exact w _ _ _ _ E strf rv_bl
    · cases e
  · exact absurd rfl (nd _ _)
  · exact absurd rfl (nd _ _)
  · cases e
/-- dicts aside (they have a road of their own) -/
def inB' (a b : D) : Option Bool := match b with
  | .dic _ _ => none
  | _ => inB a b
theorem op2_in (hK : X.K = F.K) (hu : X.A.units + 65 < cLine) : ∃ r, OpR X (compareOp .In) r ∧ Op2 F (fun a b => (inB' a b).map D.bl) r := by
  refine ⟨rInA X.K false, op_in_seq.or (op_inD hu), ?_⟩
  intro G H σ ρ O x y a b d Q E va vb e w
  have e : (inB' a b).map D.bl = some d := e
  cases e0 : inB' a b with
  | none => rw [e0] at e; cases e
  | some c =>
    rw [e0] at e
    cases e
    unfold inB' at e0
    split at e0
    · cases e0
    · rename_i nd
      exact inB_ok hK (neg := false) E va vb e0 nd w
theorem op2_notin (hK : X.K = F.K) (hu : X.A.units + 65 < cLine) : ∃ r, OpR X (compareOp .NotIn) r ∧ Op2 F (fun a b => (inB' a b).map fun c => D.bl (!c)) r := by
  refine ⟨rInA X.K true, op_notIn_seq.or (op_notInD hu), ?_⟩
  intro G H σ ρ O x y a b d Q E va vb e w
  have e : ((inB' a b).map fun c => D.bl (!c)) = some d := e
  cases e0 : inB' a b with
  | none => rw [e0] at e; cases e
  | some c =>
    rw [e0] at e
    cases e
    unfold inB' at e0
    split at e0
    · cases e0
    · rename_i nd
      exact inB_ok hK (neg := true) E va vb e0 nd w
def cmpD : CmpOp → D → D → Option D
  | .Eq => eqD | .NotEq => neD | .Lt => ltD | .LtE => leD | .Gt => gtD | .GtE => geD | .Is => isD | .IsNot => isntD
  | .In => fun a b => (inB' a b).map D.bl
  | .NotIn => fun a b => (inB' a b).map fun c => D.bl (!c)
theorem cmp_ok (hK : X.K = F.K) (hu : X.A.units + 65 < cLine) (op : CmpOp) : ∃ r, OpR X (compareOp op) r ∧ Op2 F (cmpD op) r := by
  have hu' : X.A.units + 64 < cLine := by omega
  cases op
  · exact op2_eq hK hu'
  · exact op2_ne hK hu'
  · exact op2_lt
  · exact op2_le
  · exact op2_gt
  · exact op2_ge
  · exact op2_is
  · exact op2_isnt
  · exact op2_in hK hu
  · exact op2_notin hK hu
end
end Dv
namespace Dv
open PySem L2 PyProof.Rows

/-! ### a def's promise -/
/-- what a call gives back: a list just made, or what stands for good -/
def RvF (K : Frg) (H G' H' : Hp) (v : V) (d : D) : Prop :=
  (∃ p o, v = .ref p ∧ H p = none ∧ H' p = some o ∧ G' p = none ∧ Own K G' p o d) ∨ (isMut d = false ∧ Rp K G' v d)
structure Grow (G H G' H' : Hp) : Prop where
  g : Same G G'
  h : Same H H'
  gh : Same G' H'
  new : ∀ a o, G' a = some o → G a = none → H a = none
abbrev XRel := Exn → Value → Option Addr → Hp → Prop
def spF (K : Frg) (XR : XRel) (n : Nat) (s : Fn) : Sp := fun vs H Q E => ∃ G ds, Same G H ∧ RpAll K G vs ds ∧ ds.length = n ∧ match s ds with
  | .ok d => ∀ v G' H', Grow G H G' H' → RvF K H G' H' v d → Q v H'
  | .exc x => ∀ c dx H', Same H H' → XR x c dx H' → E c dx H'
  | .bad => False
theorem spF_len {K : Frg} {XR : XRel} {n : Nat} {s : Fn} {vs : List V} {H : Hp} {Q : VK} {E : XK} (h : spF K XR n s vs H Q E) : vs.length = n := by
  obtain ⟨G, ds, _, r, l, _⟩ := h
  rw [r.length, l]
/-- a def's entry in the table -/
structure FnE where
  name : Str
  ar : Nat
  sem : Fn
def FnIn (P : Program) (w : World) (K : Frg) (mg : Str → Option Value) (base : Heap) (XR : XRel) (k : Nat) (e : FnE) : Prop :=
  ∃ (f : Addr) (fd : FuncData) (ps : List Str), mg e.name = some (.ref f) ∧ PySem.W.keepIn K (.ref f) = true ∧ Binds K fd ps [] ∧ FnOk P w K mg base (L2.CX P w) k f fd ps (spF K XR e.ar e.sem)
theorem FnIn.mono {P : Program} {w : World} {K : Frg} {mg : Str → Option Value} {base : Heap} {XR : XRel} {j k : Nat} {e : FnE} (h : FnIn P w K mg base XR j e) (hk : j ≤ k) : FnIn P w K mg base XR k e := by
  obtain ⟨f, fd, ps, a, b, c, d⟩ := h
  exact ⟨f, fd, ps, a, b, c, d.mono hk⟩

/-! ### lending what slots own to a call -/
section
variable {F : Fx} {G H : Hp} {σ : L2.St} {ρ : En} {O : Nat → List Addr}
def Owned (ρ : En) (O : Nat → List Addr) (a : Addr) : Prop := ∃ (i : Nat) (d : D), ρ[i]? = some (Sl.own d) ∧ a ∈ O i
open Classical in
noncomputable def lent (ρ : En) (O : Nat → List Addr) (G H : Hp) : Hp := fun a => if Owned ρ O a then H a else G a
open Classical in
noncomputable def unlent (ρ : En) (O : Nat → List Addr) (G : Hp) : Hp := fun a => if Owned ρ O a then none else G a
theorem lent_at {a : Addr} (h : Owned ρ O a) : lent ρ O G H a = H a := by unfold lent; rw [if_pos h]
theorem lent_ne {a : Addr} (h : ¬ Owned ρ O a) : lent ρ O G H a = G a := by unfold lent; rw [if_neg h]
theorem unlent_at {a : Addr} (h : Owned ρ O a) : unlent ρ O G a = none := by unfold unlent; rw [if_pos h]
theorem unlent_ne {a : Addr} (h : ¬ Owned ρ O a) : unlent ρ O G a = G a := by unfold unlent; rw [if_neg h]
theorem Er.owned (E : Er F G H σ ρ O) {a : Addr} (h : Owned ρ O a) : ∃ i d o, ρ[i]? = some (Sl.own d) ∧ O i = [a] ∧ σ[i]? = some (some (.ref a)) ∧ H a = some o ∧ G a = none ∧ F.H0 a = none ∧ Own F.K G a o d := by
  obtain ⟨i, d, q, m⟩ := h
  obtain ⟨p, o, h1, h2, h3, h4, h5, h6⟩ := E.own i d q
  rw [h2] at m
  have e : a = p := by simpa using m
  subst e
  exact ⟨i, d, o, q, h2, h1, h3, h4, h5, h6⟩
theorem Er.lent1 (E : Er F G H σ ρ O) : Same G (lent ρ O G H) := fun a o e => by
  by_cases h : Owned ρ O a
  · obtain ⟨_, _, _, _, _, _, _, n, _⟩ := E.owned h
    rw [e] at n; cases n
  · rw [lent_ne h]; exact e
theorem Er.lent2 (E : Er F G H σ ρ O) : Same (lent ρ O G H) H := fun a o e => by
  by_cases h : Owned ρ O a
  · rw [lent_at h] at e; exact e
  · rw [lent_ne h] at e; exact E.gh a o e
theorem Er.lentSlot (E : Er F G H σ ρ O) {i : Nat} {d : D} (h : slD ρ[i]? = some d) : ∃ v, σ[i]? = some (some v) ∧ Rp F.K (lent ρ O G H) v d := by
  rcases slD_cases h with e | e
  · obtain ⟨v, a, b⟩ := E.val i d e
    exact ⟨v, a, b.up E.lent1⟩
  · obtain ⟨p, o, h1, h2, h3, h4, h5, h6⟩ := E.own i d e
    refine ⟨_, h1, (h6.up E.lent1).rp ?_⟩
    rw [lent_at ⟨i, d, e, by rw [h2]; simp⟩]
    exact h3
theorem Avs.lent (E : Er F G H σ ρ O) : ∀ {os vs ds}, Avs F.K G σ ρ os vs ds → RpAll F.K (lent ρ O G H) vs ds
  | _, _, _, .nil => .nil
  | _, _, _, .ex a t => .cons (a.up E.lent1) (Avs.lent E t)
  | _, _, _, .va a b t => by
    obtain ⟨v, h1, h2⟩ := E.lentSlot b
    rw [a] at h1
    cases h1
    exact .cons h2 (Avs.lent E t)
/-- behind the call, the lists are the slots' own again -/
theorem Er.back (E : Er F G H σ ρ O) {G2 H2 : Hp} (g : Grow (lent ρ O G H) H G2 H2) : Er F (unlent ρ O G2) H2 σ ρ O where
  len := E.len
  g0 := fun a o e => by
    have e1 := E.g0 a o e
    have nh : ¬ Owned ρ O a := fun h => by
      obtain ⟨_, _, _, _, _, _, _, n, _⟩ := E.owned h
      rw [e1] at n; cases n
    rw [unlent_ne nh]
    exact g.g a o (E.lent1 a o e1)
  h0 := E.h0.trans g.h
  gh := fun a o e => by
    by_cases h : Owned ρ O a
    · rw [unlent_at h] at e; cases e
    · rw [unlent_ne h] at e; exact g.gh a o e
  new := fun a o e n => by
    by_cases h : Owned ρ O a
    · rw [unlent_at h] at e; cases e
    · rw [unlent_ne h] at e
      cases q : lent ρ O G H a with
      | none => exact E.h0none (g.new a o e q)
      | some o' =>
        rw [lent_ne h] at q
        exact E.new a o' q n
  val := fun i d q => by
    obtain ⟨v, a, b⟩ := E.val i d q
    refine ⟨v, a, b.up fun a o e => ?_⟩
    have nh : ¬ Owned ρ O a := fun h => by
      obtain ⟨_, _, _, _, _, _, _, n, _⟩ := E.owned h
      rw [e] at n; cases n
    rw [unlent_ne nh]
    exact g.g a o (E.lent1 a o e)
  own := fun i d q => by
    obtain ⟨p, o, h1, h2, h3, h4, h5, h6⟩ := E.own i d q
    refine ⟨p, o, h1, h2, g.h _ _ h3, unlent_at ⟨i, d, q, by rw [h2]; simp⟩, h5, h6.up fun a o e => ?_⟩
    have nh : ¬ Owned ρ O a := fun h => by
      obtain ⟨_, _, _, _, _, _, _, n, _⟩ := E.owned h
      rw [e] at n; cases n
    rw [unlent_ne nh]
    exact g.g a o (E.lent1 a o e)
  dis := E.dis
  held := fun a o e => by
    obtain ⟨h1, h2, h3⟩ := E.held a o e
    have nh : ¬ Owned ρ O a := fun ⟨i, d, q, m⟩ => h3 i d q m
    refine ⟨g.h _ _ h1, ?_, h3⟩
    rw [unlent_ne nh]
    cases z : G2 a with
    | none => rfl
    | some o' =>
      have := g.new a o' z (by rw [lent_ne nh]; exact h2)
      rw [h1] at this
      cases this
theorem Er.backG (E : Er F G H σ ρ O) {G2 H2 : Hp} (g : Grow (lent ρ O G H) H G2 H2) : Same G (unlent ρ O G2) := fun a o e => by
  have nh : ¬ Owned ρ O a := fun h => by
    obtain ⟨_, _, _, _, _, _, _, n, _⟩ := E.owned h
    rw [e] at n; cases n
  rw [unlent_ne nh]
  exact g.g a o (E.lent1 a o e)
/-- data without lists does not care -/
theorem rp_pure {K : Frg} {G G2 : Hp} (ht : ∀ {a xs}, SqT K G2 a xs → SqT K G a xs) : (∀ v d, Rp K G2 v d → pure? d = true → Rp K G v d) ∧ (∀ vs ds, RpAll K G2 vs ds → pureAll? ds = true → RpAll K G vs ds) := by
  refine ⟨fun v d h => ?_, fun vs ds h => ?_⟩
  · refine Rp.rec (motive_1 := fun v d _ => pure? d = true → Rp K G v d) (motive_2 := fun vs ds _ => pureAll? ds = true → RpAll K G vs ds) (fun _ => .non) (fun b _ => .bl b) (fun i _ => .int i) (fun x _ => .str x) (fun _ _ _ p => ?_) (fun a _ ih p => .tup (ht a) (ih (by simpa [pure?] using p))) (fun _ _ _ _ p => ?_) (fun _ p => ?_) (fun _ => .nil) (fun _ _ a b p => ?_) h
    · simp [pure?] at p
    · simp [pure?] at p
    · simp [pure?] at p
    · have p' := Bool.and_eq_true_iff.mp (show (pure? _ && pureAll? _) = true by simpa [pureAll?] using p)
      exact .cons (a p'.1) (b p'.2)
  · refine RpAll.rec (motive_1 := fun v d _ => pure? d = true → Rp K G v d) (motive_2 := fun vs ds _ => pureAll? ds = true → RpAll K G vs ds) (fun _ => .non) (fun b _ => .bl b) (fun i _ => .int i) (fun x _ => .str x) (fun _ _ _ p => ?_) (fun a _ ih p => .tup (ht a) (ih (by simpa [pure?] using p))) (fun _ _ _ _ p => ?_) (fun _ p => ?_) (fun _ => .nil) (fun _ _ a b p => ?_) h
    · simp [pure?] at p
    · simp [pure?] at p
    · simp [pure?] at p
    · have p' := Bool.and_eq_true_iff.mp (show (pure? _ && pureAll? _) = true by simpa [pureAll?] using p)
      exact .cons (a p'.1) (b p'.2)
end
end Dv
namespace Dv
open PySem L2 PyProof.Rows

/-- what a def's text is read with: the defs it may call, the module's constants, the names that are built-in ones -/
structure Tab where
  fns : List FnE
  cons : List (Str × D)
  free : List Str
structure Xo (F : Fx) (T : Tab) (N : List Str) (sc : Scope) (k : Nat) (X : Cx) : Prop where
  hK : X.K = F.K
  hN : X.N = N
  hs : X.env.scope = sc
  nd : N.Nodup
  calm : X.calm = true
  room : Room k X.A
  fns : ∀ e ∈ T.fns, FnIn X.prog X.w X.K X.mg X.base F.XR k e
  cons : ∀ q ∈ T.cons, ∃ u v, X.mg q.1 = some u ∧ RelV v u ∧ ∀ H, Rp X.K H v q.2
  free : ∀ x ∈ T.free, X.mg x = none
  pass : ∀ σ, PassesAt (L2.CX X.prog X.w) X σ (WE F.W σ)
theorem Xo.hu {F : Fx} {T : Tab} {N : List Str} {sc : Scope} {k : Nat} {X : Cx} (o : Xo F T N sc k X) : X.A.units + 65 < cLine := by
  have := o.room.un
  omega

/-! ### names, constants -/
def varM (i : Nat) : M D := fun ρ => match ρ[i]? with
  | some (.val d) => .ok d ρ
  | some (.own d) => .ok d (ρ.set i (.val d))
  | _ => .bad
def retM (d : D) : M D := fun ρ => .ok d ρ
section
variable {F : Fx} {T : Tab} {N : List Str} {sc : Scope} {k : Nat} {X : Cx} {e a b : Expr} {pos : Pos}
theorem e_var {i : Nat} (h : PE X e (tVar i)) : PE X e (rdE F (varM i) false) := by
  refine peI h fun σ H Q ⟨G, ρ, O, E, q⟩ => ?_
  unfold varM at q
  split at q
  · rename_i d ρ' h2
    split at h2
    · rename_i d' hd
      cases h2
      obtain ⟨v, hv, r⟩ := E.val i _ hd
      exact ⟨v, hv, q v G H O E strf (.inr ⟨(fun e => nomatch e), r⟩)⟩
    · rename_i d' hd
      cases h2
      obtain ⟨G', v, s, hv, r, E'⟩ := E.give hd
      exact ⟨v, hv, q v G' H O E' (stp_give s) (.inr ⟨(fun e => nomatch e), r⟩)⟩
    · cases h2
  · rename_i x ρ' h2
    split at h2 <;> cases h2
  · exact q.elim
theorem e_const {v : V} {d : D} (h : PE X e (tC v)) (r : ∀ H, Rp F.K H v d) : PE X e (rdE F (retM d) false) :=
  peI h fun σ H Q ⟨G, ρ, O, E, q⟩ => q v G H O E strf (.inr ⟨(fun e => nomatch e), r G⟩)
theorem rdE_weak {m : M D} {fr : Bool} (h : PE X e (rdE F m fr)) : PE X e (rdE F m false) := by
  refine peI h fun σ H Q ⟨G, ρ, O, E, q⟩ => rdE_hold ⟨G, ρ, O, E, ?_⟩
  cases e1 : m ρ with
  | bad => rw [e1] at q; exact q
  | exc x ρ1 => rw [e1] at q; exact q
  | ok d ρ1 =>
    rw [e1] at q
    exact fun v G' H' O' E' s r => q v G' H' O' E' s (.inr ⟨(fun e => nomatch e), r⟩)

/-! ### operations on operands -/
def opM (f : List D → Option D) (os : List Opd) : M D := fun ρ => (evO os ρ).bind fun ds ρ' => match f ds with
  | some d => .ok d ρ'
  | none => .bad
def f2 (f : D → D → Option D) : List D → Option D
  | [a, b] => f a b
  | _ => none
def f1 (f : D → Option D) : List D → Option D
  | [a] => f a
  | _ => none
/-- what a call of a built-in does, by data -/
def OpNg (F : Fx) (f : List D → Option D) (fr : Bool) (r : List V → Hp → VK → Prop) : Prop := ∀ G H σ ρ O xs ds d (Q : VK), Er F G H σ ρ O → VwAll F.K G H xs ds → f ds = some d → Wants F G H σ ρ O fr d Q → r xs H Q
abbrev OpN (F : Fx) (f : List D → Option D) (r : List V → Hp → VK → Prop) : Prop := OpNg F f true r
theorem opN_rd {es : List Expr} {os : List Opd} {ts : List TE} {f : List D → Option D} {fr : Bool} {r : List V → Hp → VK → Prop} (h : Ops F X es os ts) (hr : OpNg F f fr r) {σ : L2.St} {H : Hp} {Q : VK} (q : rdE F (opM f os) fr σ H Q) : tList ts σ H fun vs H' => r vs H' Q := by
  obtain ⟨G, ρ, O, E, q⟩ := q
  refine h.run σ H _ ⟨G, ρ, O, E, ?_⟩
  unfold opM at q
  cases e1 : evO os ρ with
  | bad => rw [e1] at q; exact q
  | exc x ρ1 => rw [e1] at q; exact q
  | ok ds ρ1 =>
    rw [e1] at q
    intro vs G1 H1 O1 E1 s1 a1
    simp only [R.bind_ok] at q
    cases e2 : f ds with
    | none => rw [e2] at q; exact q.elim
    | some d =>
      rw [e2] at q
      exact hr G1 H1 σ ρ1 O1 vs ds d Q E1 (a1.vw E1) e2 fun v G' H' O' E' s r => q v G' H' O' E' (s1.trans s) r
theorem op2_opN {f : D → D → Option D} {fr : Bool} {r : R2} (h : Op2g F f fr r) : OpNg F (f2 f) fr (fun xs H Q => match xs with | [x, y] => r x y H Q | _ => False) := by
  intro G H σ ρ O xs ds d Q E va e w
  cases va with
  | nil => cases e
  | cons v1 t =>
    cases t with
    | nil => cases e
    | cons v2 t =>
      cases t with
      | nil => exact h G H σ ρ O _ _ _ _ d Q E v1 v2 e w
      | cons _ _ => cases e
theorem op2_rd {oa ob : Opd} {ta tb : TE} {f : D → D → Option D} {fr : Bool} {r : R2} (ha : Op1 F X a oa ta) (hb : Op1 F X b ob tb) (hr : Op2g F f fr r) {σ : L2.St} {H : Hp} {Q : VK} (q : rdE F (opM (f2 f) [oa, ob]) fr σ H Q) : tOp r ta tb σ H Q :=
  opN_rd (.cons ha (.cons hb .nil)) (op2_opN hr) q
theorem e_bin {op : Operator} {f : D → D → Option D} {oa ob : Opd} {ta tb : TE} (hK : X.K = F.K) (ho : op2D op = some f) (ha : Op1 F X a oa ta) (hb : Op1 F X b ob tb) : PE X (.BinOp a op b pos) (rdE F (opM (f2 f) [oa, ob]) true) := by
  obtain ⟨r, h1, h2⟩ := op2_ok (X := X) hK ho
  exact peI (pe_op h1 ha.pe hb.pe) fun σ H Q q => op2_rd ha hb h2 q
theorem behind_ok {op : CmpOp} {b : Expr} (h : plainE b = true) : behindInMarks op b = false := by
  cases b <;> first | rfl | cases h
theorem e_cmp {op : CmpOp} {oa ob : Opd} {ta tb : TE} (hK : X.K = F.K) (hu : X.A.units + 65 < cLine) (ha : Op1 F X a oa ta) (hb : Op1 F X b ob tb) (pb : plainE b = true) : PE X (.Compare a [op] [b] pos) (rdE F (opM (f2 (cmpD op)) [oa, ob]) true) := by
  obtain ⟨r, h1, h2⟩ := cmp_ok (X := X) hK hu op
  exact peI (pe_cmpR h1 ha.pe hb.pe (behind_ok pb)) fun σ H Q q => op2_rd ha hb h2 q
/-- a value that is a bool, as a test -/
def boolM (m : M D) : M Bool := fun ρ => (m ρ).bind fun d ρ' => match d with
  | .bl b => .ok b ρ'
  | _ => .bad
theorem boolM_rd {m : M D} {fr : Bool} {t : TE} (h : ∀ σ H Q, rdE F m fr σ H Q → t σ H Q) {σ : L2.St} {H : Hp} {Q : Bool → Hp → Prop} (q : rdT F (boolM m) σ H Q) : tTest t σ H Q := by
  obtain ⟨G, ρ, O, E, q⟩ := q
  refine h σ H _ ⟨G, ρ, O, E, ?_⟩
  unfold boolM at q
  cases e1 : m ρ with
  | bad => rw [e1] at q; exact q
  | exc x ρ1 => rw [e1] at q; exact q
  | ok d ρ1 =>
    rw [e1] at q
    intro v G1 H1 O1 E1 s1 r1
    simp only [R.bind_ok] at q
    cases d with
    | bl b =>
      rcases r1 with ⟨p, o, _, _, _, _, _, _, _, h5⟩ | ⟨_, r1⟩
      · cases h5
      · cases r1
        exact ⟨b, rfl, q G1 H1 O1 E1 s1⟩
    | _ => exact q.elim
theorem t_cmp {op : CmpOp} {oa ob : Opd} {ta tb : TE} (hK : X.K = F.K) (hu : X.A.units + 65 < cLine) (ha : Op1 F X a oa ta) (hb : Op1 F X b ob tb) (pb : plainE b = true) : PT X (.Compare a [op] [b] pos) (rdT F (boolM (opM (f2 (cmpD op)) [oa, ob]))) := by
  obtain ⟨r, h1, h2⟩ := cmp_ok (X := X) hK hu op
  exact ptI (pt_cmpR h1 ha.pe hb.pe (behind_ok pb)) fun σ H Q q => boolM_rd (fun σ H Q q => op2_rd ha hb h2 q) q

/-! ### two comparisons in a row -/
def chainM (f g : D → D → Option D) (oa ob oc : Opd) : M D := fun ρ => (evO [oa, ob] ρ).bind fun ds ρ1 => match ds with
  | [a, b] => (match f a b with
    | some (.bl true) => if isMut b then .bad else (evO [oc] ρ1).bind fun es ρ2 => (match es with
      | [c] => (match g b c with
        | some d => .ok d ρ2
        | none => .bad)
      | _ => .bad)
    | some (.bl false) => .ok (.bl false) ρ1
    | _ => .bad)
  | _ => .bad
theorem vw_mono {K : Frg} {G G' H H' : Hp} {v : V} {d : D} (h : Vw K G H v d) (m : isMut d = false) (s : Same G G') : Vw K G' H' v d := by
  rcases h with h | ⟨p, o, rfl, _, h⟩
  · exact .inl (h.up s)
  · rw [h.mut] at m; cases m
theorem chain_rd {c : Expr} {f g : D → D → Option D} {r r' : R2} {oa ob oc : Opd} {ta tb tc : TE} (ha : Op1 F X a oa ta) (hb : Op1 F X b ob tb) (hc : Op1 F X c oc tc) (hr : Op2 F f r) (hr' : Op2 F g r') {σ : L2.St} {H : Hp} {Q : VK} (q : rdE F (chainM f g oa ob oc) true σ H Q) : tChain r r' ta tb tc σ H Q := by
  obtain ⟨G, ρ, O, E, q⟩ := q
  show tList [ta, tb] σ H (fun vs H2 => match vs with | [x, y] => r x y H2 (fun z H3 => ∃ k, z = .bl k ∧ if k = true then tc σ H3 fun w' H4 => r' y w' H4 Q else Q (.bl false) H3) | _ => False)
  refine (Ops.cons ha (.cons hb .nil)).run σ H _ ⟨G, ρ, O, E, ?_⟩
  unfold chainM at q
  cases e1 : evO [oa, ob] ρ with
  | bad => rw [e1] at q; exact q
  | exc x ρ1 => rw [e1] at q; exact q
  | ok ds ρ1 =>
    rw [e1] at q
    intro vs G1 H1 O1 E1 s1 a1
    simp only [R.bind_ok] at q
    have va := a1.vw E1
    cases va with
    | nil => exact q.elim
    | cons v1 t =>
      cases t with
      | nil => exact q.elim
      | cons v2 t =>
        cases t with
        | cons _ _ => exact q.elim
        | nil =>
          rename_i x d1 y d2
          simp only at q
          cases e2 : f d1 d2 with
          | none => rw [e2] at q; exact q.elim
          | some z =>
            rw [e2] at q
            refine hr G1 H1 σ ρ1 O1 x y d1 d2 z _ E1 v1 v2 e2 fun v G2 H2 O2 E2 s2 r2 => ?_
            cases z with
            | bl k =>
              have ev : v = .bl k := by
                rcases r2 with ⟨p, o, _, _, _, _, _, _, _, h5⟩ | ⟨_, r2⟩
                · cases h5
                · cases r2; rfl
              subst ev
              refine ⟨k, rfl, ?_⟩
              cases k with
              | false => exact q _ _ _ _ E2 (s1.trans s2) (rv_bl)
              | true =>
                simp only at q
                cases em : isMut d2 with
                | true => rw [em] at q; exact q.elim
                | false =>
                  rw [em] at q
                  simp only [Bool.false_eq_true, if_false] at q
                  show tList [tc] σ H2 (fun vs H4 => match vs with | [w'] => r' y w' H4 Q | _ => False)
                  refine (Ops.cons hc .nil).run σ H2 _ ⟨G2, ρ1, O2, E2, ?_⟩
                  cases e3 : evO [oc] ρ1 with
                  | bad => rw [e3] at q; exact q
                  | exc x ρ1 => rw [e3] at q; exact Xc.up q (s1.trans s2).g
                  | ok es ρ2 =>
                    rw [e3] at q
                    intro ws G3 H3 O3 E3 s3 a3
                    simp only [R.bind_ok] at q
                    have vc := a3.vw E3
                    cases vc with
                    | nil => exact q.elim
                    | cons w1 t =>
                      cases t with
                      | cons _ _ => exact q.elim
                      | nil =>
                        rename_i w' d3
                        simp only at q
                        cases e4 : g d2 d3 with
                        | none => rw [e4] at q; exact q.elim
                        | some u =>
                          rw [e4] at q
                          exact hr' G3 H3 σ ρ2 O3 y w' d2 d3 u Q E3 (vw_mono v2 em (s2.trans s3).g) w1 e4 fun v G4 H4 O4 E4 s4 r4 => q v G4 H4 O4 E4 ((s1.trans s2).trans (s3.trans s4)) r4
            | _ => exact q.elim
theorem e_chain {c : Expr} {op op' : CmpOp} {oa ob oc : Opd} {ta tb tc : TE} (hK : X.K = F.K) (hu : X.A.units + 65 < cLine) (ha : Op1 F X a oa ta) (hb : Op1 F X b ob tb) (hc : Op1 F X c oc tc) (pb : plainE b = true) (pc : plainE c = true) :
    PE X (.Compare a [op, op'] [b, c] pos) (rdE F (chainM (cmpD op) (cmpD op') oa ob oc) true) := by
  obtain ⟨r, h1, h2⟩ := cmp_ok (X := X) hK hu op
  obtain ⟨r', h3, h4⟩ := cmp_ok (X := X) hK hu op'
  exact peI (pe_chain h1 h3 ha.pe hb.pe hc.pe (behind_ok pc)) fun σ H Q q => chain_rd ha hb hc h2 h4 q
theorem t_chain {c : Expr} {op op' : CmpOp} {oa ob oc : Opd} {ta tb tc : TE} (hK : X.K = F.K) (hu : X.A.units + 65 < cLine) (ha : Op1 F X a oa ta) (hb : Op1 F X b ob tb) (hc : Op1 F X c oc tc) (pb : plainE b = true) (pc : plainE c = true) :
    PT X (.Compare a [op, op'] [b, c] pos) (rdT F (boolM (chainM (cmpD op) (cmpD op') oa ob oc))) := by
  obtain ⟨r, h1, h2⟩ := cmp_ok (X := X) hK hu op
  obtain ⟨r', h3, h4⟩ := cmp_ok (X := X) hK hu op'
  exact ptI (pt_chain h1 h3 ha.pe hb.pe hc.pe (behind_ok pc)) fun σ H Q q => boolM_rd (fun σ H Q q => chain_rd ha hb hc h2 h4 q) q
end
end Dv
namespace Dv
open PySem L2 PyProof.Rows
section
variable {F : Fx} {T : Tab} {N : List Str} {sc : Scope} {k : Nat} {X : Cx} {e a b : Expr} {pos : Pos}
/-! ### truth -/
def truD : D → Option Bool
  | .non => some false
  | .bl b => some b
  | .int i => some (i != 0)
  | .str s => if s.length ≤ sizeLine then some ((s.length : Int) != 0) else none
  | .tup xs => some (!xs.isEmpty)
  | .lst xs => some (!xs.isEmpty)
  | .scr ns => some (!ns.isEmpty)
  | .dic _ _ => none
theorem rp_empty {K : Frg} {G : Hp} {xs : List V} {ds : List D} (h : RpAll K G xs ds) : xs.isEmpty = ds.isEmpty := by
  cases h <;> rfl
theorem tru_vw {K : Frg} {G H : Hp} {v : V} {d : D} {b : Bool} (s : Same G H) (h : Vw K G H v d) (e : truD d = some b) : TruV K v H b := by
  unfold truD at e
  split at e
  · cases e; rw [h.non']; rfl
  · cases e; rw [h.bl']; rfl
  · cases e; rw [h.int']; rfl
  · split at e
    · rename_i hz
      cases e
      rw [h.str']
      exact ⟨hz, rfl⟩
    · cases e
  · cases e
    obtain ⟨p, xs, rfl, h1, h2⟩ := h.tup'
    exact .inr (.inl ⟨xs, sqT_up s h1, by rw [rp_empty h2]⟩)
  · cases e
    obtain ⟨p, xs, rfl, h1, h2⟩ := h.lst' s
    exact .inl ⟨xs, .inl (.inl h1), by rw [rp_empty h2]⟩
  · cases e
    obtain ⟨p, rfl, h1⟩ := h.scr'
    refine .inl ⟨_, s.seq h1, ?_⟩
    rename_i ns
    cases ns <;> rfl
  · cases e
def truM (o : Opd) : M Bool := fun ρ => (evO [o] ρ).bind fun ds ρ' => match ds with
  | [d] => (match truD d with
    | some b => .ok b ρ'
    | none => .bad)
  | _ => .bad
theorem tru_rd {o : Opd} {t : TE} (h : Op1 F X e o t) {σ : L2.St} {H : Hp} {Q : Bool → Hp → Prop} (q : rdT F (truM o) σ H Q) : t σ H fun x H1 => ∃ c, TruV F.K x H1 c ∧ Q c H1 := by
  obtain ⟨G, ρ, O, E, q⟩ := q
  show tList [t] σ H (fun vs H1 => match vs with | [x] => ∃ c, TruV F.K x H1 c ∧ Q c H1 | _ => False)
  refine (Ops.cons h .nil).run σ H _ ⟨G, ρ, O, E, ?_⟩
  unfold truM at q
  cases e1 : evO [o] ρ with
  | bad => rw [e1] at q; exact q
  | exc x ρ1 => rw [e1] at q; exact q
  | ok ds ρ1 =>
    rw [e1] at q
    intro vs G1 H1 O1 E1 s1 a1
    simp only [Dv.R.bind_ok] at q
    have va := a1.vw E1
    cases va with
    | nil => exact q.elim
    | cons v1 t =>
      cases t with
      | cons _ _ => exact q.elim
      | nil =>
        rename_i x d
        simp only at q
        cases e2 : truD d with
        | none => rw [e2] at q; exact q.elim
        | some b =>
          rw [e2] at q
          exact ⟨b, tru_vw E1.gh v1 e2, q G1 H1 O1 E1 s1⟩
def truthKind : Expr → Bool
  | .UnaryOp .Not _ _ => false
  | .BoolOp _ _ _ => false
  | .IfExp _ _ _ _ => false
  | .Compare _ _ _ _ => false
  | _ => true
theorem t_tru {o : Opd} {t : TE} (hK : X.K = F.K) (h : Op1 F X e o t) (hk : truthKind e = true) : PT X e (rdT F (truM o)) := by
  refine ptI (pt_truth h.pe ?_) fun σ H Q q => ?_
  · intro whole
    cases e <;> first | rfl | (simp only [truthKind, Bool.false_eq_true] at hk) | skip
    rename_i op x p
    cases op <;> first | rfl | (simp only [truthKind, Bool.false_eq_true] at hk)
  · rw [hK]
    exact tru_rd h q
def notM (m : M Bool) : M Bool := fun ρ => (m ρ).bind fun b ρ' => .ok (!b) ρ'
def andM (m n : M Bool) : M Bool := fun ρ => (m ρ).bind fun b ρ' => if b = true then n ρ' else .ok false ρ'
def orM (m n : M Bool) : M Bool := fun ρ => (m ρ).bind fun b ρ' => if b = true then .ok true ρ' else n ρ'
theorem rdT_bind {m : M Bool} {f : Bool → M Bool} {σ : L2.St} {H : Hp} {Q R : Bool → Hp → Prop} (q : rdT F (fun ρ => (m ρ).bind f) σ H Q) (h : ∀ b H', rdT F (f b) σ H' Q → R b H') : rdT F m σ H R := by
  obtain ⟨G, ρ, O, E, q⟩ := q
  dsimp only at q
  refine ⟨G, ρ, O, E, ?_⟩
  cases e1 : m ρ with
  | bad => rw [e1] at q; exact q
  | exc x ρ1 => rw [e1] at q; exact q
  | ok b ρ1 =>
    rw [e1] at q
    intro G1 H1 O1 E1 s1
    refine h b H1 ⟨G1, ρ1, O1, E1, ?_⟩
    simp only [Dv.R.bind_ok] at q
    cases e2 : f b ρ1 with
    | bad => rw [e2] at q; exact q
    | exc x ρ2 => rw [e2] at q; exact Xc.up q s1.g
    | ok c ρ2 =>
      rw [e2] at q
      exact fun G2 H2 O2 E2 s2 => q G2 H2 O2 E2 (s1.trans s2)
theorem rdT_ok {b : Bool} {σ : L2.St} {H : Hp} {Q : Bool → Hp → Prop} (q : rdT F (fun ρ => .ok b ρ) σ H Q) : Q b H := by
  obtain ⟨G, ρ, O, E, q⟩ := q
  exact q G H O E strf
theorem t_not {m : M Bool} (h : PT X a (rdT F m)) : PT X (.UnaryOp .Not a pos) (rdT F (notM m)) :=
  ptI (pt_not h) fun σ H Q q => rdT_bind (f := fun b ρ' => .ok (!b) ρ') q fun b H' q' => rdT_ok q'
theorem w_and1 {m : M Bool} (h : PT X a (rdT F m)) : PW X (.BoolOp .And [a] pos) (rdT F m) := pw_and1 h
theorem w_or1 {m : M Bool} (h : PT X a (rdT F m)) : PW X (.BoolOp .Or [a] pos) (rdT F m) := pw_or1 h
theorem pwI {t t' : TT} (h : PW X e t) (i : ∀ σ H Q, t' σ H Q → t σ H Q) : PW X e t' := ⟨fun wh pins s σ H Q I q => h.run wh pins s σ H Q I (i _ _ _ q)⟩
theorem w_and {rest : List Expr} {m n : M Bool} (h : PT X a (rdT F m)) (h2 : PW X (.BoolOp .And (b :: rest) pos) (rdT F n)) : PW X (.BoolOp .And (a :: b :: rest) pos) (rdT F (andM m n)) :=
  pwI (pw_and h h2) fun σ H Q q => rdT_bind (f := fun b ρ' => if b = true then n ρ' else .ok false ρ') q fun c H' q' => by
    cases c with
    | true => exact q'
    | false => exact rdT_ok q'
theorem w_or {rest : List Expr} {m n : M Bool} (h : PT X a (rdT F m)) (h2 : PW X (.BoolOp .Or (b :: rest) pos) (rdT F n)) : PW X (.BoolOp .Or (a :: b :: rest) pos) (rdT F (orM m n)) :=
  pwI (pw_or h h2) fun σ H Q q => rdT_bind (f := fun b ρ' => if b = true then .ok true ρ' else n ρ') q fun c H' q' => by
    cases c with
    | true => exact rdT_ok q'
    | false => exact q'
/-! ### and, or, not, if as values -/
def iteM (c : M Bool) (m n : M D) : M D := fun ρ => (c ρ).bind fun b ρ' => if b = true then m ρ' else n ρ'
theorem rdTE_bind {c : M Bool} {f : Bool → M D} {fr : Bool} {σ : L2.St} {H : Hp} {Q : VK} {R : Bool → Hp → Prop} (q : rdE F (fun ρ => (c ρ).bind f) fr σ H Q) (h : ∀ b H', rdE F (f b) fr σ H' Q → R b H') : rdT F c σ H R := by
  obtain ⟨G, ρ, O, E, q⟩ := q
  dsimp only at q
  refine ⟨G, ρ, O, E, ?_⟩
  cases e1 : c ρ with
  | bad => rw [e1] at q; exact q
  | exc x ρ1 => rw [e1] at q; exact q
  | ok b ρ1 =>
    rw [e1] at q
    intro G1 H1 O1 E1 s1
    refine h b H1 ⟨G1, ρ1, O1, E1, ?_⟩
    simp only [Dv.R.bind_ok] at q
    cases e2 : f b ρ1 with
    | bad => rw [e2] at q; exact q
    | exc x ρ2 => rw [e2] at q; exact Xc.up q s1.g
    | ok d ρ2 =>
      rw [e2] at q
      exact fun v G2 H2 O2 E2 s2 r2 => q v G2 H2 O2 E2 (s1.trans s2) r2
theorem e_ite {c : Expr} {m n : M D} {fr : Bool} {t : M Bool} (hc : PT X c (rdT F t)) (ha : PE X a (rdE F m fr)) (hb : PE X b (rdE F n fr)) : PE X (.IfExp c a b pos) (rdE F (iteM t m n) fr) :=
  peI (pe_ifExp hc ha hb) fun σ H Q q => rdTE_bind (f := fun b ρ' => if b = true then m ρ' else n ρ') q fun b H' q' => by
    cases b with
    | true => exact q'
    | false => exact q'
def tvM (m : M Bool) : M D := fun ρ => (m ρ).bind fun b ρ' => .ok (.bl b) ρ'
/-- not x -/
theorem e_not {o : Opd} {t : TE} (hK : X.K = F.K) (h : Op1 F X a o t) : PE X (.UnaryOp .Not a pos) (rdE F (tvM (notM (truM o))) true) := by
  refine peI (pe_notT h.pe) fun σ H Q q => ?_
  rw [hK]
  have q1 : rdT F (truM o) σ H fun c H1 => Q (.bl (!c)) H1 := by
    obtain ⟨G, ρ, O, E, q⟩ := q
    refine ⟨G, ρ, O, E, ?_⟩
    unfold tvM notM at q
    cases e1 : truM o ρ with
    | bad => rw [e1] at q; exact q
    | exc x ρ1 => rw [e1] at q; exact q
    | ok b ρ1 =>
      rw [e1] at q
      exact fun G1 H1 O1 E1 s1 => q _ G1 H1 O1 E1 s1 rv_bl
  exact tru_rd h q1
/-- x and y, x or y as values -/
def andV (m n : M D) : M D := fun ρ => (m ρ).bind fun d ρ' => match truD d with
  | some true => n ρ'
  | some false => .ok d ρ'
  | none => .bad
def orV (m n : M D) : M D := fun ρ => (m ρ).bind fun d ρ' => match truD d with
  | some true => .ok d ρ'
  | some false => n ρ'
  | none => .bad
theorem rdE_bind {m : M D} {f : D → M D} {fr fr' : Bool} {σ : L2.St} {H : Hp} {Q : VK} {R : VK} (q : rdE F (fun ρ => (m ρ).bind f) fr σ H Q) (h : ∀ v d G' H' ρ' O', Er F G' H' σ ρ' O' → Rp F.K G' v d → (match f d ρ' with
    | .ok d' ρ2 => ∀ v G2 H2 O2, Er F G2 H2 σ ρ2 O2 → Stp ρ' O' G' H' ρ2 O2 G2 H2 → Rv F G2 H2 ρ2 O2 fr v d' → Q v H2
    | .exc x ρ2 => Xc F σ x ρ2 G'
    | .bad => False) → R v H') : rdE F m fr' σ H R := by
  obtain ⟨G, ρ, O, E, q⟩ := q
  dsimp only at q
  refine rdE_hold ⟨G, ρ, O, E, ?_⟩
  cases e1 : m ρ with
  | bad => rw [e1] at q; exact q
  | exc x ρ1 => rw [e1] at q; exact q
  | ok d ρ1 =>
    rw [e1] at q
    intro v G1 H1 O1 E1 s1 r1
    refine h v d G1 H1 ρ1 O1 E1 r1 ?_
    simp only [Dv.R.bind_ok] at q
    cases e2 : f d ρ1 with
    | bad => rw [e2] at q; exact q
    | exc x ρ2 => rw [e2] at q; exact Xc.up q s1.g
    | ok d' ρ2 =>
      rw [e2] at q
      exact fun v G2 H2 O2 E2 s2 r2 => q v G2 H2 O2 E2 (s1.trans s2) r2
theorem e_and {rest : List Expr} {m n : M D} {fr fr' : Bool} (hK : X.K = F.K) (h : PE X a (rdE F m fr)) (h2 : PE X (.BoolOp .And (b :: rest) pos) (rdE F n fr')) : PE X (.BoolOp .And (a :: b :: rest) pos) (rdE F (andV m n) false) := by
  refine peI (pe_andT h (rdE_weak h2)) fun σ H Q q => ?_
  rw [hK]
  refine rdE_bind (fr' := fr) (f := fun d ρ' => match truD d with | some true => n ρ' | some false => .ok d ρ' | none => .bad) q fun v d G' H' ρ' O' E' r q' => ?_
  cases e1 : truD d with
  | none => rw [e1] at q'; exact q'.elim
  | some c =>
    rw [e1] at q'
    refine ⟨c, tru_vw E'.gh (.inl r) e1, ?_⟩
    cases c with
    | true => exact ⟨G', ρ', O', E', q'⟩
    | false => exact q' v G' H' O' E' strf (.inr ⟨(fun e => nomatch e), r⟩)
theorem e_or {rest : List Expr} {m n : M D} {fr fr' : Bool} (hK : X.K = F.K) (h : PE X a (rdE F m fr)) (h2 : PE X (.BoolOp .Or (b :: rest) pos) (rdE F n fr')) : PE X (.BoolOp .Or (a :: b :: rest) pos) (rdE F (orV m n) false) := by
  refine peI (pe_orT h (rdE_weak h2)) fun σ H Q q => ?_
  rw [hK]
  refine rdE_bind (fr' := fr) (f := fun d ρ' => match truD d with | some true => .ok d ρ' | some false => n ρ' | none => .bad) q fun v d G' H' ρ' O' E' r q' => ?_
  cases e1 : truD d with
  | none => rw [e1] at q'; exact q'.elim
  | some c =>
    rw [e1] at q'
    refine ⟨c, tru_vw E'.gh (.inl r) e1, ?_⟩
    cases c with
    | false => exact ⟨G', ρ', O', E', q'⟩
    | true => exact q' v G' H' O' E' strf (.inr ⟨(fun e => nomatch e), r⟩)
theorem e_one {op : BoolOp} {m : M D} {fr : Bool} (h : PE X a (rdE F m fr)) : PE X (.BoolOp op [a] pos) (rdE F m fr) := pe_one h
def negD : D → Option D
  | .int i => some (.int (-i))
  | _ => none
theorem e_neg {o : Opd} {t : TE} (h : Op1 F X a o t) : PE X (.UnaryOp .USub a pos) (rdE F (opM (f1 negD) [o]) true) := by
  refine peI (pe_un un_neg h.pe) fun σ H Q q => ?_
  refine opN_rd (r := fun xs H Q => match xs with | [x] => rU (fun i => .int (-i)) x H Q | _ => False) (.cons h .nil) ?_ q
  intro G H σ ρ O xs ds d Q E va e w
  cases va with
  | nil => cases e
  | cons v1 t =>
    cases t with
    | cons _ _ => cases e
    | nil =>
      have e' : negD _ = some d := e
      unfold negD at e'
      split at e'
      · cases e'
        exact ⟨_, v1.int', w _ _ _ _ E strf rv_int⟩
      · cases e'
end
end Dv
namespace Dv
open PySem L2 PyProof.Rows
section
variable {F : Fx} {T : Tab} {N : List Str} {sc : Scope} {k : Nat} {X : Cx} {e a b : Expr} {pos : Pos}
/-! ### displays -/
theorem evO_len : ∀ {os : List Opd} {ρ ρ' : En} {ds : List D}, evO os ρ = .ok ds ρ' → ds.length = os.length
  | [], ρ, ρ', ds, h => by cases h; rfl
  | .ex m :: os, ρ, ρ', ds, h => by
    unfold evO at h
    cases e1 : m ρ with
    | bad => rw [e1] at h; cases h
    | exc x ρ1 => rw [e1] at h; cases h
    | ok d ρ1 =>
      rw [e1] at h
      simp only [R.bind_ok] at h
      cases e2 : evO os ρ1 with
      | bad => rw [e2] at h; cases h
      | exc x ρ1 => rw [e2] at h; cases h
      | ok ds' ρ2 =>
        rw [e2] at h
        cases h
        rw [List.length_cons, List.length_cons, evO_len e2]
  | .va i :: os, ρ, ρ', ds, h => by
    unfold evO at h
    cases e1 : slD ρ[i]? with
    | none => rw [e1] at h; cases h
    | some d =>
      rw [e1] at h
      simp only at h
      cases e2 : evO os ρ with
      | bad => rw [e2] at h; cases h
      | exc x ρ1 => rw [e2] at h; cases h
      | ok ds' ρ2 =>
        rw [e2] at h
        simp only [R.bind_ok] at h
        cases e3 : slD ρ2[i]? with
        | none => rw [e3] at h; cases h
        | some d => rw [e3] at h; cases h; rw [List.length_cons, List.length_cons, evO_len e2]
theorem Avs.rp {K : Frg} {G : Hp} {σ : L2.St} {ρ : En} : ∀ {os vs ds}, Avs K G σ ρ os vs ds → (∀ o ∈ os, ∃ m, o = .ex m) → RpAll K G vs ds
  | _, _, _, .nil, _ => .nil
  | _, _, _, .ex a t, h => .cons a (Avs.rp t fun o ho => h o (List.mem_cons_of_mem _ ho))
  | _, _, _, .va _ _ _, h => by
    obtain ⟨m, e⟩ := h _ List.mem_cons_self
    cases e
def tupM (ms : List (M D)) : M D := fun ρ => (evO (ms.map Opd.ex) ρ).bind fun ds ρ' => .ok (.tup ds) ρ'
def lstM (ms : List (M D)) : M D := fun ρ => (evO (ms.map Opd.ex) ρ).bind fun ds ρ' => .ok (.lst ds) ρ'
theorem ex_all {ms : List (M D)} : ∀ o ∈ ms.map Opd.ex, ∃ m, o = .ex m := fun o ho => by
  obtain ⟨m, _, rfl⟩ := List.mem_map.mp ho
  exact ⟨m, rfl⟩
theorem e_tup {es : List Expr} {ms : List (M D)} {ts : List TE} {x1 : Nat} (h : Ops F X es (ms.map Opd.ex) ts) (p : es.all plainE = true) (hl : ms.length ≤ 10000) : PE X (.Tuple es x1 pos) (rdE F (tupM ms) false) := by
  refine peI (pe_tup (pa_list h p)) fun σ H Q ⟨G, ρ, O, E, q⟩ => ?_
  show tList ts σ H _
  refine h.run σ H _ ⟨G, ρ, O, E, ?_⟩
  unfold tupM at q
  cases e1 : evO (ms.map Opd.ex) ρ with
  | bad => rw [e1] at q; exact q
  | exc x ρ1 => rw [e1] at q; exact q
  | ok ds ρ1 =>
    rw [e1] at q
    intro vs G1 H1 O1 E1 s1 a1
    have r := a1.rp ex_all
    have l := evO_len e1
    rw [List.length_map] at l
    refine ⟨?_, fun p hp => ?_⟩
    · rw [r.length, l, sizeLine_eq]; omega
    · exact E1.new_tup (fr := false) r (fun v G' H' O' E' s r => q v G' H' O' E' (s1.trans s) r) p hp
theorem e_lst {es : List Expr} {ms : List (M D)} {ts : List TE} (h : Ops F X es (ms.map Opd.ex) ts) (p : es.all plainE = true) (hl : ms.length ≤ 10000) : PE X (.List es pos) (rdE F (lstM ms) true) := by
  refine peI (pe_lst (pa_list h p)) fun σ H Q ⟨G, ρ, O, E, q⟩ => ?_
  show tList ts σ H _
  refine h.run σ H _ ⟨G, ρ, O, E, ?_⟩
  unfold lstM at q
  cases e1 : evO (ms.map Opd.ex) ρ with
  | bad => rw [e1] at q; exact q
  | exc x ρ1 => rw [e1] at q; exact q
  | ok ds ρ1 =>
    rw [e1] at q
    intro vs G1 H1 O1 E1 s1 a1
    have r := a1.rp ex_all
    have l := evO_len e1
    rw [List.length_map] at l
    refine ⟨?_, fun p hp => ?_⟩
    · rw [r.length, l, sizeLine_eq]; omega
    · exact E1.new_lst r (fun v G' H' O' E' s r => q v G' H' O' E' (s1.trans s) r) p hp
/-! ### subscripts -/
def ixI (n : Nat) (i : Int) : Option Nat := if 0 ≤ i then (if i < n then some i.toNat else none) else if -(n : Int) ≤ i then some (i + n).toNat else none
def ixD : D → D → Option D
  | .tup xs, .int i => (ixI xs.length i).bind fun j => xs[j]?
  | .lst xs, .int i => (ixI xs.length i).bind fun j => xs[j]?
  | .scr ns, .int i => (ixI ns.length i).bind fun j => ns[j]?.map D.int
  | .str s, .int i => if s.length ≤ sizeLine then (ixI s.length i).bind fun j => s.cps.toList[j]?.map fun c => D.str ⟨#[c]⟩ else none
  | _, _ => none
theorem ixN_eq (n : Nat) (i : Int) : ixN n i = ixI n i := rfl
theorem atI_of {K : Frg} {G : Hp} {xs : List V} {ds : List D} {i : Int} {d : D} (r : RpAll K G xs ds) (e : ((ixI ds.length i).bind fun j => ds[j]?) = some d) : ∃ v, atI xs i = some v ∧ Rp K G v d := by
  cases q : ixI ds.length i with
  | none => rw [q] at e; cases e
  | some j =>
    rw [q] at e
    obtain ⟨v, h1, h2⟩ := r.get (i := j) e
    refine ⟨v, ?_, h2⟩
    unfold atI
    rw [ixN_eq, r.length, q]
    exact h1
theorem op2_ix (hK : X.K = F.K) : IxR X (rIx X.K) ∧ Op2g F ixD false (rIx X.K) := by
  refine ⟨ix_seq, ?_⟩
  intro G H σ ρ O x y a b d Q E va vb e w
  unfold ixD at e
  split at e
  · obtain ⟨p, xs, rfl, h1, h2⟩ := va.tup'
    obtain ⟨v, h3, h4⟩ := atI_of h2 e
    exact .inr (.inl ⟨p, xs, _, v, rfl, vb.int', by rw [hK]; exact sqT_up E.gh h1, h3, w _ _ _ _ E strf (.inr ⟨(fun e => nomatch e), h4⟩)⟩)
  · obtain ⟨p, xs, rfl, h1, h2⟩ := va.lst' E.gh
    obtain ⟨v, h3, h4⟩ := atI_of h2 e
    exact .inl ⟨p, xs, _, v, rfl, vb.int', .inl (.inl h1), h3, w _ _ _ _ E strf (.inr ⟨(fun e => nomatch e), h4⟩)⟩
  · rename_i ns i
    obtain ⟨p, rfl, h1⟩ := va.scr'
    cases q : ixI ns.length i with
    | none => rw [q] at e; cases e
    | some j =>
      rw [q] at e
      have e' : ns[j]?.map D.int = some d := e
      cases q2 : ns[j]? with
      | none => rw [q2] at e'; cases e'
      | some n =>
        rw [q2] at e'
        cases e'
        refine .inl ⟨p, _, i, .int n, rfl, vb.int', by rw [hK]; exact E.gh.seq h1, ?_, w _ _ _ _ E strf rv_int⟩
        unfold atI
        rw [ixN_eq, List.length_map, q]
        show (ns.map V.int)[j]? = _
        rw [List.getElem?_map, q2]
        rfl
  · rename_i s i
    split at e
    · rename_i hz
      cases q : ixI s.length i with
      | none => rw [q] at e; cases e
      | some j =>
        rw [q] at e
        have e' : s.cps.toList[j]?.map (fun c => D.str ⟨#[c]⟩) = some d := e
        cases q2 : s.cps.toList[j]? with
        | none => rw [q2] at e'; cases e'
        | some n =>
          rw [q2] at e'
          cases e'
          refine .inr (.inr ⟨s, i, n, va.str', vb.int', hz, ?_, w _ _ _ _ E strf rv_str⟩)
          unfold atI
          have hl : s.cps.toList.length = s.length := by simp [Str.length]
          rw [ixN_eq, hl, q]
          exact q2
    · cases e
  · cases e
def plainIxE : Expr → Bool
  | .Slice _ _ _ _ => false
  | _ => true
theorem ixk_of {e : Expr} (h : plainE e = true) : PlainIx e := by
  intro o i
  cases e <;> first | rfl | cases h
theorem e_ix {oa ob : Opd} {ta tb : TE} (hK : X.K = F.K) (ha : Op1 F X a oa ta) (hb : Op1 F X b ob tb) (p : plainE b = true) : PE X (.Subscript a b pos) (rdE F (opM (f2 ixD) [oa, ob]) false) := by
  obtain ⟨h1, h2⟩ := op2_ix (F := F) hK
  exact peI (pe_ix h1 ha.pe hb.pe (ixk_of p)) fun σ H Q q => op2_rd ha hb h2 q
/-! ### slices -/
def cutL {α : Type} (xs : List α) (lo hi : Option Int) : List α := (xs.drop (HT.sIx xs.length 0 lo)).take (HT.sIx xs.length xs.length hi - HT.sIx xs.length 0 lo)
def slD3 (d : D) (lo hi : Option Int) : Option D := match d with
  | .tup xs => some (.tup (cutL xs lo hi))
  | .lst xs => some (.lst (cutL xs lo hi))
  | .str s => if s.length ≤ sizeLine then some (.str ⟨(cutL s.cps.toList lo hi).toArray⟩) else none
  | _ => none
theorem rp_cut {K : Frg} {G : Hp} {xs : List V} {ds : List D} (r : RpAll K G xs ds) (lo hi : Option Int) : RpAll K G (cutV xs lo hi) (cutL ds lo hi) := by
  unfold cutV cutL
  rw [r.length]
  exact (r.drop _).take _
def rSlX (K : Frg) : V → Option Int → Option Int → Hp → VK → Prop := fun x lo hi H Q => rSlA K x lo hi H Q ∨ rSlL K x lo hi H Q ∨ rSlS x lo hi H Q
theorem sl_x : SlR X (rSlX X.K) := sl_tupA.or (sl_list.or sl_str)
theorem sl_dat (hK : X.K = F.K) {G H : Hp} {σ : L2.St} {ρ : En} {O : Nat → List Addr} {x : V} {lo hi : Option Int} {a d : D} {Q : VK} (E : Er F G H σ ρ O) (va : Vw F.K G H x a) (e : slD3 a lo hi = some d) (w : Wants F G H σ ρ O true d Q) : rSlX X.K x lo hi H Q := by
  unfold slD3 at e
  split at e
  · rename_i ds
    cases e
    obtain ⟨p, xs, rfl, h1, h2⟩ := va.tup'
    refine .inl ⟨p, xs, rfl, by rw [hK]; exact sqT_up E.gh h1, fun q => ?_, fun _ => E.new_tup (rp_cut h2 lo hi) w⟩
    refine w _ _ _ _ E strf (rv_val rfl (.tup h1 ?_))
    have ec : cutL ds lo hi = ds := by
      unfold cutL
      rw [← h2.length, q.1, q.2, List.drop_zero, Nat.sub_zero, h2.length, List.take_length]
    rw [ec]
    exact h2
  · cases e
    obtain ⟨p, xs, rfl, h1, h2⟩ := va.lst' E.gh
    exact .inr (.inl ⟨p, xs, rfl, .inl (.inl h1), E.new_lst (rp_cut h2 lo hi) w⟩)
  · rename_i s
    split at e
    · rename_i hz
      cases e
      refine .inr (.inr ⟨s, va.str', hz, ?_⟩)
      have ec : cutS s lo hi = ⟨(cutL s.cps.toList lo hi).toArray⟩ := by
        unfold cutS cutL
        simp [Str.length]
      rw [ec]
      exact w _ _ _ _ E strf rv_str
    · cases e
  · cases e
/-- a part of a slice that is there -/
def intOf : D → Option Int
  | .int i => some i
  | _ => none
def sl0 : List D → Option D
  | [d] => slD3 d none none
  | _ => none
def slL : List D → Option D
  | [d, .int i] => slD3 d (some i) none
  | _ => none
def slH : List D → Option D
  | [d, .int i] => slD3 d none (some i)
  | _ => none
/-- an operand looked at once more -/
def again (o : Opd) (d : D) (ρ : En) : Option D := match o with
  | .va i => slD ρ[i]?
  | .ex _ => some d
def slB (oa oc oc2 : Opd) : M D := fun ρ => (evO [oa, oc] ρ).bind fun ds ρ1 => match ds with
  | [d, .int i] => (evO [oc2] ρ1).bind fun es ρ2 => (match es with
    | [.int j] => (match again oa d ρ2 with
      | some d' => (match slD3 d' (some i) (some j) with
        | some r => .ok r ρ2
        | none => .bad)
      | none => .bad)
    | _ => .bad)
  | _ => .bad
theorem e_sl0 {oa : Opd} {ta : TE} {p2 : Pos} (hK : X.K = F.K) (ha : Op1 F X a oa ta) : PE X (.Subscript a (.Slice none none none p2) pos) (rdE F (opM sl0 [oa]) true) := by
  refine peI (pe_slice sl_x ha.pe po_none po_none) fun σ H Q q => ?_
  refine opN_rd (r := fun xs H Q => match xs with | [x] => rSlX X.K x none none H Q | _ => False) (.cons ha .nil) ?_ q
  intro G H σ ρ O xs ds d Q E va e w
  cases va with
  | nil => cases e
  | cons v1 t =>
    cases t with
    | cons _ _ => cases e
    | nil => exact sl_dat hK E v1 e w
theorem e_slL {c : Expr} {oa oc : Opd} {ta tc : TE} {p2 : Pos} (hK : X.K = F.K) (ha : Op1 F X a oa ta) (hc : Op1 F X c oc tc) : PE X (.Subscript a (.Slice (some c) none none p2) pos) (rdE F (opM slL [oa, oc]) true) := by
  refine peI (pe_slice sl_x ha.pe (po_some hc.pe) po_none) fun σ H Q q => ?_
  show tList [ta, tc] σ H (fun xs H3 => match xs with | [x, y] => ∃ i, y = .int i ∧ rSlX X.K x (some i) none H3 Q | _ => False)
  refine opN_rd (r := fun xs H Q => match xs with | [x, y] => ∃ i, y = .int i ∧ rSlX X.K x (some i) none H Q | _ => False) (.cons ha (.cons hc .nil)) ?_ q
  intro G H σ ρ O xs ds d Q E va e w
  cases va with
  | nil => cases e
  | cons v1 t =>
    cases t with
    | nil => cases e
    | cons v2 t =>
      cases t with
      | cons _ _ => simp [slL] at e
      | nil =>
        rename_i d1 _ d2
        cases d2 <;> try cases e
        exact ⟨_, v2.int', sl_dat hK E v1 e w⟩
theorem e_slH {c : Expr} {oa oc : Opd} {ta tc : TE} {p2 : Pos} (hK : X.K = F.K) (ha : Op1 F X a oa ta) (hc : Op1 F X c oc tc) : PE X (.Subscript a (.Slice none (some c) none p2) pos) (rdE F (opM slH [oa, oc]) true) := by
  refine peI (pe_slice sl_x ha.pe po_none (po_some hc.pe)) fun σ H Q q => ?_
  show tList [ta, tc] σ H (fun xs H3 => match xs with | [x, y] => ∃ i, y = .int i ∧ rSlX X.K x none (some i) H3 Q | _ => False)
  refine opN_rd (r := fun xs H Q => match xs with | [x, y] => ∃ i, y = .int i ∧ rSlX X.K x none (some i) H Q | _ => False) (.cons ha (.cons hc .nil)) ?_ q
  intro G H σ ρ O xs ds d Q E va e w
  cases va with
  | nil => cases e
  | cons v1 t =>
    cases t with
    | nil => cases e
    | cons v2 t =>
      cases t with
      | cons _ _ => simp [slH] at e
      | nil =>
        rename_i d1 _ d2
        cases d2 <;> try cases e
        exact ⟨_, v2.int', sl_dat hK E v1 e w⟩
theorem e_slB {c c2 : Expr} {oa oc oc2 : Opd} {ta tc tc2 : TE} {p2 : Pos} (hK : X.K = F.K) (ha : Op1 F X a oa ta) (hc : Op1 F X c oc tc) (hc2 : Op1 F X c2 oc2 tc2) : PE X (.Subscript a (.Slice (some c) (some c2) none p2) pos) (rdE F (slB oa oc oc2) true) := by
  refine peI (pe_slice sl_x ha.pe (po_some hc.pe) (po_some hc2.pe)) fun σ H Q q => ?_
  obtain ⟨G, ρ, O, E, q⟩ := q
  show tList [ta, tc] σ H (fun xs H2 => match xs with | [x, y] => ∃ i, y = .int i ∧ tc2 σ H2 (fun z H3 => ∃ j, z = .int j ∧ rSlX X.K x (some i) (some j) H3 Q) | _ => False)
  refine (Ops.cons ha (.cons hc .nil)).run σ H _ ⟨G, ρ, O, E, ?_⟩
  unfold slB at q
  cases e1 : evO [oa, oc] ρ with
  | bad => rw [e1] at q; exact q
  | exc x ρ1 => rw [e1] at q; exact q
  | ok ds ρ1 =>
    rw [e1] at q
    intro vs G1 H1 O1 E1 s1 a1
    simp only [R.bind_ok] at q
    have va := a1.vw E1
    cases va with
    | nil => exact q.elim
    | cons v1 t =>
      cases t with
      | nil => exact q.elim
      | cons v2 t =>
        cases t with
        | cons _ _ => simp only at q
        | nil =>
          rename_i x d y dy
          cases dy with
          | int i =>
            refine ⟨i, v2.int', ?_⟩
            show tList [tc2] σ H1 (fun xs H3 => match xs with | [z] => ∃ j, z = .int j ∧ rSlX X.K x (some i) (some j) H3 Q | _ => False)
            refine (Ops.cons hc2 .nil).run σ H1 _ ⟨G1, ρ1, O1, E1, ?_⟩
            simp only at q
            cases e2 : evO [oc2] ρ1 with
            | bad => rw [e2] at q; exact q
            | exc x ρ1 => rw [e2] at q; exact Xc.up q s1.g
            | ok es ρ2 =>
              rw [e2] at q
              intro ws G2 H2 O2 E2 s2 a2
              simp only [R.bind_ok] at q
              have vb := a2.vw E2
              cases vb with
              | nil => exact q.elim
              | cons w1 t =>
                cases t with
                | cons _ _ => simp only at q
                | nil =>
                  rename_i z dz
                  cases dz with
                  | int j =>
                    refine ⟨j, w1.int', ?_⟩
                    simp only at q
                    cases e3 : again oa d ρ2 with
                    | none => rw [e3] at q; exact q.elim
                    | some d' =>
                      rw [e3] at q
                      simp only at q
                      cases e4 : slD3 d' (some i) (some j) with
                      | none => rw [e4] at q; exact q.elim
                      | some r =>
                        rw [e4] at q
                        refine sl_dat hK E2 ?_ e4 fun v G' H' O' E' s r => q v G' H' O' E' ((s1.trans s2).trans s) r
                        cases a1 with
                        | ex h1 h2 =>
                          cases e3
                          exact .inl (h1.up s2.g)
                        | va h1 h2 h3 =>
                          obtain ⟨v, h4, h5⟩ := E2.slot e3
                          rw [h1] at h4
                          cases h4
                          exact h5
                  | _ => exact q.elim
          | _ => exact q.elim
end
end Dv
namespace Dv
open PySem L2 PyProof.Rows
section
variable {F : Fx} {T : Tab} {N : List Str} {sc : Scope} {k : Nat} {X : Cx} {e a b : Expr} {pos : Pos}
/-! ### calls of defs -/
def giveAll (ρ : En) : En := ρ.map fun s => match s with
  | .own d => .val d
  | s => s
def hasOwn (os : List Opd) (ρ : En) : Bool := os.any fun o => match o with
  | .va i => (match ρ[i]? with
    | some (.own _) => true
    | _ => false)
  | _ => false
def callM (s : Fn) (os : List Opd) : M D := fun ρ => (evO os ρ).bind fun ds ρ' => match s ds with
  | .ok d => .ok d (if hasOwn os ρ' then (if indep d then ρ' else giveAll ρ') else ρ')
  | .exc x => .exc x ρ'
  | .bad => .bad
theorem Avs.noOwn {K : Frg} {G H : Hp} {σ : L2.St} {ρ : En} {O : Nat → List Addr} {F : Fx} (E : Er F G H σ ρ O) : ∀ {os vs ds}, Avs F.K G σ ρ os vs ds → hasOwn os ρ = false → RpAll F.K G vs ds
  | _, _, _, .nil, _ => .nil
  | _, _, _, .ex a t, h => .cons a (Avs.noOwn (K := K) E t (by simpa [hasOwn] using h))
  | _, _, _, .va (i := i) a b t, h => by
    have h' := h
    unfold hasOwn at h'
    rw [List.any_cons, Bool.or_eq_false_iff] at h'
    rcases slD_cases b with e | e
    · obtain ⟨v, h1, h2⟩ := E.val i _ e
      rw [a] at h1
      cases h1
      exact .cons h2 (Avs.noOwn (K := K) E t h'.2)
    · simp only [e, Bool.true_eq_false, false_and] at h'
theorem Er.grow {G H : Hp} {σ : L2.St} {ρ : En} {O : Nat → List Addr} (E : Er F G H σ ρ O) {G2 H2 : Hp} (g : Grow G H G2 H2) : Er F G2 H2 σ ρ O where
  len := E.len
  g0 := E.g0.trans g.g
  h0 := E.h0.trans g.h
  gh := g.gh
  new := fun a o e n => by
    cases q : G a with
    | none => exact E.h0none (g.new a o e q)
    | some o' => exact E.new a o' q n
  val := fun i d q => let ⟨v, a, b⟩ := E.val i d q; ⟨v, a, b.up g.g⟩
  own := fun i d q => by
    obtain ⟨p, o, h1, h2, h3, h4, h5, h6⟩ := E.own i d q
    refine ⟨p, o, h1, h2, g.h _ _ h3, ?_, h5, h6.up g.g⟩
    cases q2 : G2 p with
    | none => rfl
    | some o' =>
      have := g.new p o' q2 h4
      rw [h3] at this
      cases this
  dis := E.dis
  held := fun a o e => by
    obtain ⟨h1, h2, h3⟩ := E.held a o e
    refine ⟨g.h _ _ h1, ?_, h3⟩
    cases z : G2 a with
    | none => rfl
    | some o' =>
      have := g.new a o' z h2
      rw [h1] at this
      cases this
theorem rvF_rv {G H : Hp} {σ : L2.St} {ρ : En} {O : Nat → List Addr} (E : Er F G H σ ρ O) {G2 H2 : Hp} {v : V} {d : D} {fr : Bool} (r : RvF F.K H G2 H2 v d) : Rv F G2 H2 ρ O true v d := by
  rcases r with ⟨p, o, rfl, h1, h2, h3, h4⟩ | ⟨m, h⟩
  · exact .inl ⟨p, o, rfl, rfl, h2, h3, E.h0none h1, E.bnone h1, E.notown h1, h4⟩
  · exact .inr ⟨fun _ => m, h⟩
/-- all slots' lists for good, behind a call that borrowed them -/
theorem Er.gaveAll {G H : Hp} {σ : L2.St} {ρ : En} {O : Nat → List Addr} (E : Er F G H σ ρ O) {G2 H2 : Hp} (g : Grow (lent ρ O G H) H G2 H2) : Er F G2 H2 σ (giveAll ρ) O where
  len := by unfold giveAll; rw [List.length_map]; exact E.len
  g0 := (E.g0.trans E.lent1).trans g.g
  h0 := E.h0.trans g.h
  gh := g.gh
  new := fun a o e n => by
    cases q : lent ρ O G H a with
    | none => exact E.h0none (g.new a o e q)
    | some o' =>
      by_cases h : Owned ρ O a
      · obtain ⟨_, _, _, _, _, _, _, _, z, _⟩ := E.owned h
        exact z
      · rw [lent_ne h] at q
        exact E.new a o' q n
  val := fun i d q => by
    have q' : slD ρ[i]? = some d := by
      unfold giveAll at q
      rw [List.getElem?_map] at q
      cases e : ρ[i]? with
      | none => rw [e] at q; cases q
      | some s =>
        rw [e] at q
        cases s with
        | no => cases q
        | val d' => cases q; rfl
        | own d' => cases q; rfl
    obtain ⟨v, h1, h2⟩ := E.lentSlot q'
    exact ⟨v, h1, h2.up g.g⟩
  own := fun i d q => by
    unfold giveAll at q
    rw [List.getElem?_map] at q
    cases e : ρ[i]? with
    | none => rw [e] at q; cases q
    | some s => rw [e] at q; cases s <;> cases q
  dis := fun i j d e' _ q _ => by
    unfold giveAll at q
    rw [List.getElem?_map] at q
    cases e : ρ[i]? with
    | none => rw [e] at q; cases q
    | some s => rw [e] at q; cases s <;> cases q
  held := fun a o e => by
    obtain ⟨h1, h2, h3⟩ := E.held a o e
    have nh : ¬ Owned ρ O a := fun ⟨i, d, q, m⟩ => h3 i d q m
    refine ⟨g.h _ _ h1, ?_, fun j d q => ?_⟩
    · cases z : G2 a with
      | none => rfl
      | some o' =>
        have := g.new a o' z (by rw [lent_ne nh]; exact h2)
        rw [h1] at this
        cases this
    · unfold giveAll at q
      rw [List.getElem?_map] at q
      cases e : ρ[j]? with
      | none => rw [e] at q; cases q
      | some s => rw [e] at q; cases s <;> cases q
theorem stp_giveAll {G H : Hp} {ρ : En} {O : Nat → List Addr} {G2 H2 : Hp} (s : Same G G2) (h : Same H H2) : Stp ρ O G H (giveAll ρ) O G2 H2 := ⟨s⟩
theorem callM_rd {es : List Expr} {os : List Opd} {ts : List TE} {n : Nat} {s : Fn} (h : Ops F X es os ts) (hn : es.length = n) {σ : L2.St} {H : Hp} {Q : VK} (q : rdE F (callM s os) true σ H Q) : tList ts σ H fun vs H1 => spF F.K F.XR n s vs H1 Q (WE F.W σ) := by
  have ho : os.length = n := by
    rw [← hn]
    clear q hn
    induction h with
    | nil => rfl
    | cons _ _ ih => rw [List.length_cons, List.length_cons, ih]
  obtain ⟨G, ρ, O, E, q⟩ := q
  refine h.run σ H _ ⟨G, ρ, O, E, ?_⟩
  unfold callM at q
  cases e1 : evO os ρ with
  | bad => rw [e1] at q; exact q
  | exc x ρ1 => rw [e1] at q; exact q
  | ok ds ρ1 =>
    rw [e1] at q
    intro vs G1 H1 O1 E1 s1 a1
    simp only [R.bind_ok] at q
    have hl : ds.length = n := by rw [evO_len e1, ho]
    cases e2 : s ds with
    | bad => rw [e2] at q; exact q.elim
    | exc x =>
      rw [e2] at q
      refine ⟨lent ρ1 O1 G1 H1, ds, E1.lent2, a1.lent E1, hl, ?_⟩
      rw [e2]
      exact fun c dx H' sh xr => q c dx G1 H' O1 ⟨E1.len, E1.g0, E1.h0.trans sh, E1.gh.trans sh, E1.new, E1.val, fun i d z => let ⟨p, o, h1, h2, h3, h4⟩ := E1.own i d z; ⟨p, o, h1, h2, sh _ _ h3, h4⟩, E1.dis, fun a o e => let ⟨h1, h2, h3⟩ := E1.held a o e; ⟨sh _ _ h1, h2, h3⟩⟩ s1.g xr
    | ok d =>
      rw [e2] at q
      cases ow : hasOwn os ρ1 with
      | false =>
        rw [ow] at q
        simp only [Bool.false_eq_true, if_false] at q
        refine ⟨G1, ds, E1.gh, Avs.noOwn (K := F.K) (G := G1) E1 a1 ow, hl, ?_⟩
        rw [e2]
        exact fun v G' H' g r => q v G' H' O1 (E1.grow g) (s1.trans (.ofH g.g g.h)) (rvF_rv (fr := true) E1 r)
      | true =>
        rw [ow] at q
        simp only [if_true] at q
        refine ⟨lent ρ1 O1 G1 H1, ds, E1.lent2, a1.lent E1, hl, ?_⟩
        rw [e2]
        intro v G' H' g r
        cases ind : indep d with
        | false =>
          rw [ind] at q
          simp only [Bool.false_eq_true, if_false] at q
          refine q v G' H' O1 (E1.gaveAll g) (s1.trans (stp_giveAll (E1.lent1.trans g.g) g.h)) ?_
          rcases r with ⟨p, o, rfl, h1, h2, h3, h4⟩ | ⟨m, h⟩
          · refine .inl ⟨p, o, rfl, rfl, h2, h3, E1.h0none h1, E1.bnone h1, fun i d' z => ?_, h4⟩
            unfold giveAll at z
            rw [List.getElem?_map] at z
            cases e : ρ1[i]? with
            | none => rw [e] at z; cases z
            | some s => rw [e] at z; cases s <;> cases z
          · exact .inr ⟨fun _ => m, h⟩
        | true =>
          rw [ind] at q
          simp only [if_true] at q
          have ht : ∀ {a xs}, SqT F.K G' a xs → SqT F.K (unlent ρ1 O1 G') a xs := fun {a xs} h => by
            have nh : ∀ u, G' a = some u → (∀ ys, u ≠ .lst ys) → (∀ ys, u ≠ .dK ys) → ¬ Owned ρ1 O1 a := fun u hu n1 n2 ow => by
              obtain ⟨_, _, o, _, _, _, h3, _, _, h6⟩ := E1.owned ow
              have := g.gh _ _ hu
              rw [g.h _ _ h3] at this
              cases this
              cases h6
              · exact n1 _ rfl
              · exact n2 _ rfl
            rcases h with (h | ⟨u, h⟩) | h
            · exact .inl (.inl (by rw [unlent_ne (nh _ h (fun _ e => nomatch e) (fun _ e => nomatch e))]; exact h))
            · exact .inl (.inr ⟨u, by rw [unlent_ne (nh _ h (fun _ e => nomatch e) (fun _ e => nomatch e))]; exact h⟩)
            · exact .inr h
          refine q v (unlent ρ1 O1 G') H' O1 (E1.back g) (s1.trans (.ofH (E1.backG g) g.h)) ?_
          rcases r with ⟨p, o, rfl, h1, h2, h3, h4⟩ | ⟨m, h⟩
          · refine .inl ⟨p, o, rfl, rfl, h2, ?_, E1.h0none h1, E1.bnone h1, E1.notown h1, ?_⟩
            · cases z : unlent ρ1 O1 G' p with
              | none => rfl
              | some o' =>
                by_cases ow : Owned ρ1 O1 p
                · rw [unlent_at ow] at z; cases z
                · rw [unlent_ne ow, h3] at z; cases z
            · cases h4 with
              | lst h4 => exact .lst ((rp_pure ht).2 _ _ h4 ind)
              | dic l h4 => exact .dic l ((rp_pure ht).2 _ _ h4 ind)
          · refine .inr ⟨fun _ => m, (rp_pure ht).1 _ _ h ?_⟩
            cases d <;> first | exact ind | cases m
theorem e_call {x : Str} {p : Pos} {es : List Expr} {os : List Opd} {ts : List TE} {n : Nat} {s : Fn} (o : Xo F T N sc k X) (hm : ⟨x, n, s⟩ ∈ T.fns) (gl : Gl X x) (h : Ops F X es os ts) (pl : es.all plainE = true) (hn : es.length = n) (hd : (x == ("__debug__" : Str)) = false) :
    PE X (.Call (.Name x p) es [] pos) (rdE F (callM s os) true) := by
  obtain ⟨f, fd, ps, h1, h2, h3, h4⟩ := o.fns _ hm
  have hK := o.hK
  refine ⟨fun pins s' σ H Q I q => ?_⟩
  have q' := callM_rd h hn q
  rw [← hK] at q'
  cases es with
  | nil =>
    cases h
    refine wpAny_Call_Name_kw (ld_glob I gl h1 ?_ hd)
    exact PySem.W.callWith_K0 I.kIn h2 (run_fnS (us := []) (E := WE F.W) h4 o.room h3 (o.pass σ) I .nil q')
  | cons e1 es =>
    rw [List.all_cons, Bool.and_eq_true] at pl
    exact (pe_callS h4 o.room gl h1 h2 h3 o.pass (pa_list h (by rw [List.all_cons, pl.1, pl.2]; rfl)) hd (star_of pl.1 _ _) (nostar _ _ pl.2)).run pins s' σ H Q I q'
end
end Dv
namespace Dv
open PySem L2 PyProof.Rows
section
variable {F : Fx} {T : Tab} {N : List Str} {sc : Scope} {k : Nat} {X : Cx} {e a b : Expr} {pos : Pos}
theorem CallR.or {f : Value} {r r' : List V → Hp → VK → Prop} (h : CallR X f r) (h' : CallR X f r') : CallR X f (fun xs H Q => r xs H Q ∨ r' xs H Q) := by
  intro pins s σ H xs us Q I rv q
  rcases q with q | q
  · exact h pins s σ H xs us Q I rv q
  · exact h' pins s σ H xs us Q I rv q
/-! ### lists of ints, of truth values, as data -/
def intsOf : List D → Option (List Int)
  | [] => some []
  | .int i :: r => (intsOf r).map (i :: ·)
  | _ :: _ => none
def blsOf : List D → Option (List Bool)
  | [] => some []
  | .bl i :: r => (blsOf r).map (i :: ·)
  | _ :: _ => none
theorem intsOf_eq : ∀ {ds : List D} {ns : List Int}, intsOf ds = some ns → ds = ns.map D.int
  | [], ns, h => by cases h; rfl
  | .int i :: r, ns, h => by
    unfold intsOf at h
    cases e : intsOf r with
    | none => rw [e] at h; cases h
    | some ms => rw [e] at h; cases h; rw [intsOf_eq e]; rfl
theorem blsOf_eq : ∀ {ds : List D} {ns : List Bool}, blsOf ds = some ns → ds = ns.map D.bl
  | [], ns, h => by cases h; rfl
  | .bl i :: r, ns, h => by
    unfold blsOf at h
    cases e : blsOf r with
    | none => rw [e] at h; cases h
    | some ms => rw [e] at h; cases h; rw [blsOf_eq e]; rfl
@[simp] theorem intsOf_map : ∀ ns : List Int, intsOf (ns.map D.int) = some ns
  | [] => rfl
  | n :: r => by simp [intsOf, intsOf_map r]
@[simp] theorem blsOf_map : ∀ ns : List Bool, blsOf (ns.map D.bl) = some ns
  | [] => rfl
  | n :: r => by simp [blsOf, blsOf_map r]
theorem rp_ints {K : Frg} {G : Hp} : ∀ {ns : List Int} {vs : List V}, RpAll K G vs (ns.map D.int) → vs = ns.map V.int
  | [], _, h => by cases h; rfl
  | n :: r, _, h => by
    cases h with
    | cons h1 h2 => cases h1; rw [rp_ints h2]; rfl
theorem rp_bls {K : Frg} {G : Hp} : ∀ {ns : List Bool} {vs : List V}, RpAll K G vs (ns.map D.bl) → vs = ns.map V.bl
  | [], _, h => by cases h; rfl
  | n :: r, _, h => by
    cases h with
    | cons h1 h2 => cases h1; rw [rp_bls h2]; rfl
theorem ints_rp {K : Frg} {G : Hp} : ∀ (ns : List Int), RpAll K G (ns.map V.int) (ns.map D.int)
  | [] => .nil
  | n :: r => .cons (.int n) (ints_rp r)
/-! ### the built-in functions -/
def lenD : D → Option D
  | .str s => if s.length ≤ sizeLine then some (.int s.length) else none
  | .tup xs => some (.int xs.length)
  | .lst xs => some (.int xs.length)
  | .scr ns => some (.int ns.length)
  | .dic ks _ => some (.int ks.length)
  | _ => none
def absD : D → Option D
  | .int i => some (.int (if i < 0 then -i else i))
  | _ => none
def intD : D → Option D
  | .int i => some (.int i)
  | .bl b => some (.int (if b then 1 else 0))
  | .str s => if s.length ≤ 640 then (PySem.intText? s).map D.int else none
  | _ => none
def tupleD : D → Option D
  | .lst xs => some (.tup xs)
  | .tup xs => some (.tup xs)
  | _ => none
def listD : D → Option D
  | .lst xs => some (.lst xs)
  | .tup xs => some (.lst xs)
  | _ => none
def sumD : D → Option D
  | .lst xs => (intsOf xs).map fun ns => .int ns.sum
  | .tup xs => (intsOf xs).map fun ns => .int ns.sum
  | _ => none
def maxI : List Int → Option Int
  | [] => none
  | n :: r => some (r.foldl max n)
def minI : List Int → Option Int
  | [] => none
  | n :: r => some (r.foldl min n)
def max1D : D → Option D
  | .lst xs => (intsOf xs).bind fun ns => (maxI ns).map D.int
  | _ => none
def min1D : D → Option D
  | .lst xs => (intsOf xs).bind fun ns => (minI ns).map D.int
  | _ => none
def max2D : D → D → Option D
  | .int i, .int j => some (.int (max i j))
  | _, _ => none
def min2D : D → D → Option D
  | .int i, .int j => some (.int (min i j))
  | _, _ => none
def maxL : List D → Option D
  | [a] => max1D a
  | [a, b] => max2D a b
  | _ => none
def minL : List D → Option D
  | [a] => min1D a
  | [a, b] => min2D a b
  | _ => none
def insI (n : Int) : List Int → List Int
  | [] => [n]
  | m :: r => if n ≤ m then n :: m :: r else m :: insI n r
def sortI : List Int → List Int
  | [] => []
  | n :: r => insI n (sortI r)
def sortedD : D → Option D
  | .lst xs => (intsOf xs).map fun ns => .lst ((sortI ns).map D.int)
  | _ => none
def anyD : D → Option D
  | .lst xs => (blsOf xs).map fun bs => .bl (bs.any id)
  | _ => none
def allD : D → Option D
  | .lst xs => (blsOf xs).map fun bs => .bl (bs.all id)
  | _ => none
theorem one_op {f : D → Option D} {fr : Bool} {r : V → Hp → VK → Prop} (h : ∀ G H σ ρ O x a d (Q : VK), Er F G H σ ρ O → Vw F.K G H x a → f a = some d → Wants F G H σ ρ O fr d Q → r x H Q) : OpNg F (f1 f) fr (fun xs H Q => match xs with | [x] => r x H Q | _ => False) := by
  intro G H σ ρ O xs ds d Q E va e w
  cases va with
  | nil => cases e
  | cons v1 t =>
    cases t with
    | cons _ _ => cases e
    | nil => exact h G H σ ρ O _ _ d Q E v1 e w
theorem zip_len {α β : Type} : ∀ (as : List α) (bs : List β), as.length = bs.length → (as.zip bs).length = as.length
  | [], [], _ => rfl
  | a :: r, b :: s, h => by simp only [List.length_cons] at h; rw [List.zip_cons_cons, List.length_cons, zip_len r s (by omega), List.length_cons]
  | [], _ :: _, h => by cases h
  | _ :: _, [], h => by cases h
theorem cb_len (hK : X.K = F.K) : ∃ r, CallR X (.builtin "len") r ∧ OpNg F (f1 lenD) true r := by
  refine ⟨_, CallR.or call_len_seq (CallR.or call_len_str call_lenD), fun G H σ ρ O xs ds d Q E va e w => ?_⟩
  cases va with
  | nil => cases e
  | cons v1 t =>
    cases t with
    | cons _ _ => cases e
    | nil =>
      replace e : lenD _ = some d := e
      unfold lenD at e
      split at e
      · split at e
        · rename_i hz
          cases e
          exact .inr (.inl ⟨_, by rw [v1.str'], hz, w _ _ _ _ E strf rv_int⟩)
        · cases e
      · cases e
        obtain ⟨p, xs, rfl, h1, h2⟩ := v1.tup'
        exact .inl ⟨p, xs, rfl, .inr (by rw [hK]; exact sqT_up E.gh h1), by rw [h2.length]; exact w _ _ _ _ E strf rv_int⟩
      · cases e
        obtain ⟨p, xs, rfl, h1, h2⟩ := v1.lst' E.gh
        exact .inl ⟨p, xs, rfl, .inl (.inl (.inl h1)), by rw [h2.length]; exact w _ _ _ _ E strf rv_int⟩
      · cases e
        obtain ⟨p, rfl, h1⟩ := v1.scr'
        exact .inl ⟨p, _, rfl, .inl (by rw [hK]; exact E.gh.seq h1), by rw [List.length_map]; exact w _ _ _ _ E strf rv_int⟩
      · cases e
        obtain ⟨p, xs, rfl, h1, h2, h3⟩ := v1.dic' E.gh
        exact .inr (.inr ⟨p, _, rfl, h1, by rw [zip_len _ _ h2]; exact w _ _ _ _ E strf rv_int⟩)
      · cases e
theorem cb_abs : ∃ r, CallR X (.builtin "abs") r ∧ OpNg F (f1 absD) true r := by
  refine ⟨_, call_abs, fun G H σ ρ O xs ds d Q E va e w => ?_⟩
  cases va with
  | nil => cases e
  | cons v1 t =>
    cases t with
    | cons _ _ => cases e
    | nil =>
      replace e : absD _ = some d := e
      unfold absD at e
      split at e
      · cases e
        exact ⟨_, by rw [v1.int'], w _ _ _ _ E strf rv_int⟩
      · cases e
theorem cb_int : ∃ r, CallR X (.type "int") r ∧ OpNg F (f1 intD) true r := by
  refine ⟨_, CallR.or call_int1 call_int_str, fun G H σ ρ O xs ds d Q E va e w => ?_⟩
  cases va with
  | nil => cases e
  | cons v1 t =>
    cases t with
    | cons _ _ => cases e
    | nil =>
      replace e : intD _ = some d := e
      unfold intD at e
      split at e
      · cases e
        exact .inl (.inl ⟨_, by rw [v1.int'], w _ _ _ _ E strf rv_int⟩)
      · cases e
        exact .inl (.inr ⟨_, by rw [v1.bl'], w _ _ _ _ E strf rv_int⟩)
      · split at e
        · rename_i s hz
          cases e1 : PySem.intText? s with
          | none => rw [e1] at e; cases e
          | some n =>
            rw [e1] at e
            cases e
            exact .inr ⟨s, n, by rw [v1.str'], e1, hz, w _ _ _ _ E strf rv_int⟩
        · cases e
      · cases e
theorem cb_tuple (hK : X.K = F.K) : ∃ r, CallR X (.type "tuple") r ∧ OpNg F (f1 tupleD) true r := by
  refine ⟨_, call_tuple_of, fun G H σ ρ O xs ds d Q E va e w => ?_⟩
  cases va with
  | nil => cases e
  | cons v1 t =>
    cases t with
    | cons _ _ => cases e
    | nil =>
      replace e : tupleD _ = some d := e
      unfold tupleD at e
      split at e
      · cases e
        obtain ⟨p, xs, rfl, h1, h2⟩ := v1.lst' E.gh
        exact ⟨p, xs, rfl, .inl ⟨.inl (.inl h1), E.new_tup h2 w⟩⟩
      · cases e
        obtain ⟨p, xs, rfl, h1, h2⟩ := v1.tup'
        exact ⟨p, xs, rfl, .inr ⟨by rw [hK]; exact sqT_up E.gh h1, w _ _ _ _ E strf (rv_val rfl (.tup h1 h2))⟩⟩
      · cases e
theorem cb_list (hK : X.K = F.K) : ∃ r, CallR X (.type "list") r ∧ OpNg F (f1 listD) true r := by
  refine ⟨_, call_list_of, fun G H σ ρ O xs ds d Q E va e w => ?_⟩
  cases va with
  | nil => cases e
  | cons v1 t =>
    cases t with
    | cons _ _ => cases e
    | nil =>
      replace e : listD _ = some d := e
      unfold listD at e
      split at e
      · cases e
        obtain ⟨p, xs, rfl, h1, h2⟩ := v1.lst' E.gh
        exact ⟨p, xs, rfl, .inl (.inl (.inl h1)), E.new_lst h2 w⟩
      · cases e
        obtain ⟨p, xs, rfl, h1, h2⟩ := v1.tup'
        exact ⟨p, xs, rfl, .inr (by rw [hK]; exact sqT_up E.gh h1), E.new_lst h2 w⟩
      · cases e
def rSumT (K : Frg) : List V → Hp → VK → Prop := fun vs H Q => ∃ (a : Addr) (ns : List Int), vs = [V.ref a] ∧ SqT K H a (ns.map V.int) ∧ Q (.int ns.sum) H
theorem cr_sumT (hc : X.calm = true) : CallR X (.builtin "sum") (rSumT X.K) := by
  intro pins s σ H vs us Q I r h
  obtain ⟨a, ns, rfl, hs, q⟩ := h
  obtain ⟨its, rv, hl, _⟩ := I.tuple hs
  rw [Vals.ref1 r]
  obtain ⟨xs, e⟩ := rv.ints.allInts.items
  have hn : numsOf (intItems xs).toList = ns := by rw [← e]; exact rv.ints.numsOf
  rw [nums_intItems] at hn
  rw [e] at hl
  refine PySem.W.ktm_sumG (I.ok.hd hc) hl fun h' tk t' hk => ?_
  rw [preSum_eq, List.take_of_length_le (by simp), hn]
  exact ⟨.int _, H, I.kept hk, ⟨_, rfl⟩, q⟩
theorem cb_sum (hK : X.K = F.K) (hc : X.calm = true) : ∃ r, CallR X (.builtin "sum") r ∧ OpNg F (f1 sumD) true r := by
  refine ⟨_, CallR.or (cr_sum hc) (cr_sumT hc), fun G H σ ρ O xs ds d Q E va e w => ?_⟩
  cases va with
  | nil => cases e
  | cons v1 t =>
    cases t with
    | cons _ _ => cases e
    | nil =>
      replace e : sumD _ = some d := e
      unfold sumD at e
      split at e
      · rename_i xs
        cases e1 : intsOf xs with
        | none => rw [e1] at e; cases e
        | some ns =>
          rw [e1] at e
          cases e
          have e2 := intsOf_eq e1
          subst e2
          obtain ⟨p, vs, rfl, h1, h2⟩ := v1.lst' E.gh
          have e3 := rp_ints h2
          subst e3
          exact .inl ⟨p, ns, rfl, .inl (.inl h1), w _ _ _ _ E strf rv_int⟩
      · rename_i xs
        cases e1 : intsOf xs with
        | none => rw [e1] at e; cases e
        | some ns =>
          rw [e1] at e
          cases e
          have e2 := intsOf_eq e1
          subst e2
          obtain ⟨p, vs, rfl, h1, h2⟩ := v1.tup'
          have e3 := rp_ints h2
          subst e3
          exact .inr ⟨p, ns, rfl, by rw [hK]; exact sqT_up E.gh h1, w _ _ _ _ E strf rv_int⟩
      · cases e
theorem foldl_max : ∀ (r : List Int) (n : Int), (r.foldl max n = n ∨ r.foldl max n ∈ r) ∧ n ≤ r.foldl max n ∧ ∀ m ∈ r, m ≤ r.foldl max n
  | [], n => ⟨.inl rfl, Int.le_refl _, fun _ h => by cases h⟩
  | m :: r, n => by
    obtain ⟨a, b, c⟩ := foldl_max r (max n m)
    rw [List.foldl_cons]
    refine ⟨?_, by omega, fun x hx => ?_⟩
    · rcases a with a | a
      · rw [a]
        rcases Int.le_total n m with h | h
        · right; rw [Int.max_eq_right h]; exact List.mem_cons_self
        · left; exact Int.max_eq_left h
      · right; exact List.mem_cons_of_mem _ a
    · rcases List.mem_cons.mp hx with rfl | hx
      · omega
      · exact c x hx
theorem foldl_min : ∀ (r : List Int) (n : Int), (r.foldl min n = n ∨ r.foldl min n ∈ r) ∧ r.foldl min n ≤ n ∧ ∀ m ∈ r, r.foldl min n ≤ m
  | [], n => ⟨.inl rfl, Int.le_refl _, fun _ h => by cases h⟩
  | m :: r, n => by
    obtain ⟨a, b, c⟩ := foldl_min r (min n m)
    rw [List.foldl_cons]
    refine ⟨?_, by omega, fun x hx => ?_⟩
    · rcases a with a | a
      · rw [a]
        rcases Int.le_total n m with h | h
        · left; exact Int.min_eq_left h
        · right; rw [Int.min_eq_right h]; exact List.mem_cons_self
      · right; exact List.mem_cons_of_mem _ a
    · rcases List.mem_cons.mp hx with rfl | hx
      · omega
      · exact c x hx
theorem maxI_uniq {ns : List Int} {m n : Int} (e : maxI ns = some n) (h1 : m ∈ ns) (h2 : ∀ y ∈ ns, y ≤ m) : m = n := by
  cases ns with
  | nil => cases e
  | cons x r =>
    cases e
    obtain ⟨a, b, c⟩ := foldl_max r x
    have h3 : r.foldl max x ∈ x :: r := by
      rcases a with a | a
      · rw [a]; exact List.mem_cons_self
      · exact List.mem_cons_of_mem _ a
    have h4 := h2 _ h3
    rcases List.mem_cons.mp h1 with rfl | h1
    · omega
    · have := c m h1; omega
theorem minI_uniq {ns : List Int} {m n : Int} (e : minI ns = some n) (h1 : m ∈ ns) (h2 : ∀ y ∈ ns, m ≤ y) : m = n := by
  cases ns with
  | nil => cases e
  | cons x r =>
    cases e
    obtain ⟨a, b, c⟩ := foldl_min r x
    have h3 : r.foldl min x ∈ x :: r := by
      rcases a with a | a
      · rw [a]; exact List.mem_cons_self
      · exact List.mem_cons_of_mem _ a
    have h4 := h2 _ h3
    rcases List.mem_cons.mp h1 with rfl | h1
    · omega
    · have := c m h1; omega
theorem cb_max (hc : X.calm = true) : ∃ r, CallR X (.builtin "max") r ∧ OpNg F maxL true r := by
  refine ⟨_, CallR.or (call_max2 hc) (cr_max hc), fun G H σ ρ O xs ds d Q E va e w => ?_⟩
  cases va with
  | nil => cases e
  | cons v1 t =>
    cases t with
    | nil =>
      replace e : max1D _ = some d := e
      unfold max1D at e
      split at e
      · rename_i xs
        cases e1 : intsOf xs with
        | none => rw [e1] at e; cases e
        | some ns =>
          rw [e1] at e
          replace e : (maxI ns).map D.int = some d := e
          cases e4 : maxI ns with
          | none => rw [e4] at e; cases e
          | some n =>
            rw [e4] at e
            cases e
            have e2 := intsOf_eq e1
            subst e2
            obtain ⟨p, vs, rfl, h1, h2⟩ := v1.lst' E.gh
            have e3 := rp_ints h2
            subst e3
            refine .inr ⟨p, ns, rfl, .inl (.inl h1), ?_, fun m m1 m2 => ?_⟩
            · cases ns with
              | nil => cases e4
              | cons _ _ => exact Nat.succ_pos _
            · rw [maxI_uniq e4 m1 m2]
              exact w _ _ _ _ E strf rv_int
      · cases e
    | cons v2 t =>
      cases t with
      | cons _ _ => cases e
      | nil =>
        replace e : max2D _ _ = some d := e
        unfold max2D at e
        split at e
        · rename_i i j
          cases e
          refine .inl ⟨i, j, by rw [v1.int', v2.int'], ?_⟩
          have : (if j > i then j else i) = max i j := by split <;> omega
          rw [this]
          exact w _ _ _ _ E strf rv_int
        · cases e
theorem cb_min (hc : X.calm = true) : ∃ r, CallR X (.builtin "min") r ∧ OpNg F minL true r := by
  refine ⟨_, CallR.or (call_min2 hc) (cr_min hc), fun G H σ ρ O xs ds d Q E va e w => ?_⟩
  cases va with
  | nil => cases e
  | cons v1 t =>
    cases t with
    | nil =>
      replace e : min1D _ = some d := e
      unfold min1D at e
      split at e
      · rename_i xs
        cases e1 : intsOf xs with
        | none => rw [e1] at e; cases e
        | some ns =>
          rw [e1] at e
          replace e : (minI ns).map D.int = some d := e
          cases e4 : minI ns with
          | none => rw [e4] at e; cases e
          | some n =>
            rw [e4] at e
            cases e
            have e2 := intsOf_eq e1
            subst e2
            obtain ⟨p, vs, rfl, h1, h2⟩ := v1.lst' E.gh
            have e3 := rp_ints h2
            subst e3
            refine .inr ⟨p, ns, rfl, .inl (.inl h1), ?_, fun m m1 m2 => ?_⟩
            · cases ns with
              | nil => cases e4
              | cons _ _ => exact Nat.succ_pos _
            · rw [minI_uniq e4 m1 m2]
              exact w _ _ _ _ E strf rv_int
      · cases e
    | cons v2 t =>
      cases t with
      | cons _ _ => cases e
      | nil =>
        replace e : min2D _ _ = some d := e
        unfold min2D at e
        split at e
        · rename_i i j
          cases e
          refine .inl ⟨i, j, by rw [v1.int', v2.int'], ?_⟩
          have : (if j < i then j else i) = min i j := by split <;> omega
          rw [this]
          exact w _ _ _ _ E strf rv_int
        · cases e
theorem insI_perm (n : Int) : ∀ l : List Int, (insI n l).Perm (n :: l)
  | [] => .refl _
  | m :: r => by
    unfold insI
    split
    · exact .refl _
    · exact ((insI_perm n r).cons m).trans (List.Perm.swap ..)
theorem insI_pw (n : Int) : ∀ l : List Int, l.Pairwise (· ≤ ·) → (insI n l).Pairwise (· ≤ ·)
  | [], _ => List.pairwise_singleton ..
  | m :: r, h => by
    unfold insI
    rw [List.pairwise_cons] at h
    split
    · rename_i hm
      rw [List.pairwise_cons]
      refine ⟨fun x hx => ?_, List.pairwise_cons.mpr h⟩
      rcases List.mem_cons.mp hx with rfl | hx
      · exact hm
      · exact Int.le_trans hm (h.1 x hx)
    · rename_i hm
      rw [List.pairwise_cons]
      refine ⟨fun x hx => ?_, insI_pw n r h.2⟩
      rcases List.mem_cons.mp ((insI_perm n r).mem_iff.mp hx) with rfl | hx
      · omega
      · exact h.1 x hx
theorem sortI_perm : ∀ l : List Int, (sortI l).Perm l
  | [] => .refl _
  | n :: r => (insI_perm n _).trans ((sortI_perm r).cons n)
theorem sortI_pw : ∀ l : List Int, (sortI l).Pairwise (· ≤ ·)
  | [] => List.Pairwise.nil
  | n :: r => insI_pw n _ (sortI_pw r)
theorem cb_sorted : ∃ r, CallR X (.builtin "sorted") r ∧ OpNg F (f1 sortedD) true r := by
  refine ⟨_, cr_sortedI, fun G H σ ρ O xs ds d Q E va e w => ?_⟩
  cases va with
  | nil => cases e
  | cons v1 t =>
    cases t with
    | cons _ _ => cases e
    | nil =>
      replace e : sortedD _ = some d := e
      unfold sortedD at e
      split at e
      · rename_i xs
        cases e1 : intsOf xs with
        | none => rw [e1] at e; cases e
        | some ns =>
          rw [e1] at e
          cases e
          have e2 := intsOf_eq e1
          subst e2
          obtain ⟨p, vs, rfl, h1, h2⟩ := v1.lst' E.gh
          have e3 := rp_ints h2
          subst e3
          refine ⟨p, ns, rfl, .inl (.inl h1), fun ns' p' hp hw hn => ?_⟩
          have e5 : ns' = sortI ns := PySem.W.ksm_same (hp.trans (sortI_perm ns).symm) hw (sortI_pw ns)
          subst e5
          exact E.new_lst (ints_rp _) w p' hn
      · cases e
theorem cb_any (hc : X.calm = true) : ∃ r, CallR X (.builtin "any") r ∧ OpNg F (f1 anyD) true r := by
  refine ⟨_, cr_any hc, fun G H σ ρ O xs ds d Q E va e w => ?_⟩
  cases va with
  | nil => cases e
  | cons v1 t =>
    cases t with
    | cons _ _ => cases e
    | nil =>
      replace e : anyD _ = some d := e
      unfold anyD at e
      split at e
      · rename_i xs
        cases e1 : blsOf xs with
        | none => rw [e1] at e; cases e
        | some ns =>
          rw [e1] at e
          cases e
          have e2 := blsOf_eq e1
          subst e2
          obtain ⟨p, vs, rfl, h1, h2⟩ := v1.lst' E.gh
          have e3 := rp_bls h2
          subst e3
          exact ⟨p, ns, rfl, .inl (.inl h1), w _ _ _ _ E strf rv_bl⟩
      · cases e
theorem cb_all (hc : X.calm = true) : ∃ r, CallR X (.builtin "all") r ∧ OpNg F (f1 allD) true r := by
  refine ⟨_, cr_all hc, fun G H σ ρ O xs ds d Q E va e w => ?_⟩
  cases va with
  | nil => cases e
  | cons v1 t =>
    cases t with
    | cons _ _ => cases e
    | nil =>
      replace e : allD _ = some d := e
      unfold allD at e
      split at e
      · rename_i xs
        cases e1 : blsOf xs with
        | none => rw [e1] at e; cases e
        | some ns =>
          rw [e1] at e
          cases e
          have e2 := blsOf_eq e1
          subst e2
          obtain ⟨p, vs, rfl, h1, h2⟩ := v1.lst' E.gh
          have e3 := rp_bls h2
          subst e3
          exact ⟨p, ns, rfl, .inl (.inl h1), w _ _ _ _ E strf rv_bl⟩
      · cases e
/-- a call of a built-in function, of a built-in type -/
theorem e_cb {x : Str} {id : String} {p : Pos} {es : List Expr} {os : List Opd} {ts : List TE} {f : List D → Option D} {r : List V → Hp → VK → Prop} (o : Xo F T N sc k X) (hf : x ∈ T.free) (hv : bootBuiltins x = some (.builtin id)) (gl : Gl X x)
    (hc : CallR X (.builtin id) r) (hr : OpNg F f true r) (h : Ops F X es os ts) (pl : es.all plainE = true) (ne : es ≠ []) (hn : x ≠ "__name__") (hd : (x == ("__debug__" : Str)) = false) : PE X (.Call (.Name x p) es [] pos) (rdE F (opM f os) true) := by
  cases es with
  | nil => exact absurd rfl ne
  | cons e1 es =>
    have pl' := pl
    rw [List.all_cons, Bool.and_eq_true] at pl
    exact peI (pe_callB hc gl (o.free x hf) hv (pa_list h pl') hn hd (star_of pl.1 _ _) (nostar _ _ pl.2)) fun σ H Q q => opN_rd h hr q
theorem e_ct {x : Str} {id : String} {p : Pos} {es : List Expr} {os : List Opd} {ts : List TE} {f : List D → Option D} {r : List V → Hp → VK → Prop} (o : Xo F T N sc k X) (hf : x ∈ T.free) (hv : bootBuiltins x = some (.type id)) (gl : Gl X x)
    (hc : CallR X (.type id) r) (hr : OpNg F f true r) (h : Ops F X es os ts) (pl : es.all plainE = true) (ne : es ≠ []) (hn : x ≠ "__name__") (hd : (x == ("__debug__" : Str)) = false) : PE X (.Call (.Name x p) es [] pos) (rdE F (opM f os) true) := by
  cases es with
  | nil => exact absurd rfl ne
  | cons e1 es =>
    have pl' := pl
    rw [List.all_cons, Bool.and_eq_true] at pl
    exact peI (pe_callTy hc gl (o.free x hf) hv (pa_list h pl') hn hd (star_of pl.1 _ _) (nostar _ _ pl.2)) fun σ H Q q => opN_rd h hr q
end
end Dv
namespace Dv
open PySem L2 PyProof.Rows
section
variable {F : Fx} {T : Tab} {N : List Str} {sc : Scope} {k : Nat} {X : Cx} {e a b : Expr} {pos : Pos}
/-! ### isinstance(x, T) -/
def tyS : D → String
  | .non => "NoneType" | .bl _ => "bool" | .int _ => "int" | .str _ => "str" | .tup _ => "tuple" | .lst _ => "list" | .dic _ _ => "dict" | .scr _ => "list"
def isiTypes : List String := ["int", "bool", "str", "tuple", "list", "dict"]
def isiB (T : String) (d : D) : Bool := tyS d == T || (tyS d == "bool" && T == "int")
def isiD (T : String) (d : D) : Option D := some (.bl (isiB T d))
theorem kitB_ok {T : String} (hT : T ∈ isiTypes) (d : D) : kitB (tyS d) T = some (isiB T d) := by
  have h : T = "int" ∨ T = "bool" ∨ T = "str" ∨ T = "tuple" ∨ T = "list" ∨ T = "dict" := by simpa [isiTypes] using hT
  rcases h with rfl | rfl | rfl | rfl | rfl | rfl <;> cases d <;> (unfold isiB; simp only [tyS]; decide +kernel)
theorem ty_of {K : Frg} {H : Hp} {v : V} {d : D} (r : Rp K H v d) : TyX K H v (.type (tyS d)) := by
  cases r with
  | non => exact .base .non
  | bl b => exact .base (.bl b)
  | int b => exact .base (.int b)
  | str b => exact .base (.str b)
  | lst h _ => exact .base (.lst h)
  | dic h _ _ => exact .base (.dK h)
  | tup h _ =>
    rcases h with (h | ⟨o, h⟩) | ⟨o, its, n, h, hc, _⟩
    · exact .base (.tup h)
    · exact .fTuple h
    · exact .kTuple h hc
  | scr h =>
    rcases h with (h | ⟨o, h⟩) | ⟨o, its, n, h, hc, _⟩
    · exact .base (.lst h)
    · exact .base (.frz h)
    · exact .kList h hc
theorem e_isi {x tn : Str} {ty : String} {o : Opd} {t : TE} {p p2 : Pos} (xo : Xo F T N sc k X) (hx : x ∈ T.free) (hv : bootBuiltins x = some (.builtin "isinstance")) (gl : Gl X x) (hn : x ≠ "__name__") (hd : (x == ("__debug__" : Str)) = false)
    (ht : tn ∈ T.free) (hvt : bootBuiltins tn = some (.type ty)) (glt : Gl X tn) (hnt : tn ≠ "__name__") (hdt : (tn == ("__debug__" : Str)) = false) (hty : ty ∈ isiTypes) (h : Op1 F X a o t) (pl : plainE a = true) :
    PE X (.Call (.Name x p) [a, .Name tn p2] [] pos) (rdE F (opM (f1 (isiD ty)) [o]) true) := by
  have hc : PE X (.Name tn p2) (tC (.ty ty)) := pe_bltn glt (xo.free tn ht) hvt rfl hnt hdt
  have pa : PA X [a, .Name tn p2] (tCons t (tCons (tC (.ty ty)) tNil)) := pa_cons h.pe (pa_cons hc pa_nil) (star_of pl _ _)
  refine peI (pe_callB call_isi gl (xo.free x hx) hv pa hn hd (star_of pl _ _) rfl) fun σ H Q q => ?_
  show t σ H fun x1 H1 => rIsi X.K [x1, .ty ty] H1 Q
  have := opN_rd (r := fun xs H Q => match xs with | [x1] => rIsi X.K [x1, .ty ty] H Q | _ => False) (.cons h .nil) ?_ q
  · exact this
  intro G H σ ρ O xs ds d Q E va e w
  cases va with
  | nil => cases e
  | cons v1 t =>
    cases t with
    | cons _ _ => cases e
    | nil =>
      replace e : isiD ty _ = some d := e
      cases e
      exact ⟨_, _, _, _, _, rfl, .ty ty, by rw [xo.hK]; exact ty_of (v1.rp E.gh), kit_ty (kitB_ok hty _), w _ _ _ _ E strf rv_bl⟩

/-! ### methods of built-in types -/
/-- sep.join(xs), s a text -/
def strsOf : List D → Option (List Str)
  | [] => some []
  | .str i :: r => (strsOf r).map (i :: ·)
  | _ :: _ => none
theorem strsOf_eq : ∀ {ds : List D} {ns : List Str}, strsOf ds = some ns → ds = ns.map D.str
  | [], ns, h => by cases h; rfl
  | .str i :: r, ns, h => by
    unfold strsOf at h
    cases e : strsOf r with
    | none => rw [e] at h; cases h
    | some ms => rw [e] at h; cases h; rw [strsOf_eq e]; rfl
@[simp] theorem strsOf_map : ∀ ns : List Str, strsOf (ns.map D.str) = some ns
  | [] => rfl
  | n :: r => by simp [strsOf, strsOf_map r]
theorem rp_strs {K : Frg} {G : Hp} : ∀ {ns : List Str} {vs : List V}, RpAll K G vs (ns.map D.str) → vs = ns.map V.str
  | [], _, h => by cases h; rfl
  | n :: r, _, h => by
    cases h with
    | cons h1 h2 => cases h1; rw [rp_strs h2]; rfl
def joinB (a : Str) (xs : List D) : Option D := (strsOf xs).bind fun ys => if (ys.map (·.length)).sum + ys.length * a.length ≤ 16777216 then some (.str (Txt.join a ys)) else none
def joinD : D → D → Option D
  | .str a, .lst xs => joinB a xs
  | .str a, .tup xs => joinB a xs
  | _, _ => none
def plainBase : Expr → Bool
  | .Name _ _ => true
  | .Constant _ _ _ => true
  | .Attribute _ _ _ => true
  | .Subscript _ _ _ => true
  | _ => false
theorem base_of {o : Expr} {m : Str} {env : PySem.Env} (h : plainBase o = true) : attributeBase o m env (eval o env) = eval o env := by
  cases o <;> first | rfl | cases h
end
end Dv
namespace Dv
open PySem L2 PyProof.Rows
/-- J walks ds, G standing -/
structure WalkD (K : Frg) (G : Hp) (J : It) (ds : List D) : Prop where
  goes : ∀ i H, i < ds.length → Same G H → J.go i H
  stops : ∀ H, Same G H → J.stop ds.length H
  yields : ∀ i H x H', i < ds.length → Same G H → J.yld i H x H' → ∃ d, ds[i]? = some d ∧ ((H' = H ∧ Rp K G x d) ∨ ∃ p o, H p = none ∧ H' = upd H p o ∧ Rp K (upd G p o) x d)
section
variable {F : Fx} {T : Tab} {N : List Str} {sc : Scope} {k : Nat} {X : Cx} {e a b tg : Expr} {pos : Pos}
def rdI (F : Fx) (m : M (List D)) : TI := fun σ H R => ∃ G ρ O, Er F G H σ ρ O ∧ match m ρ with
  | .ok ds ρ' => ∀ J G' H' O', Er F G' H' σ ρ' O' → Stp ρ O G H ρ' O' G' H' → WalkD F.K G' J ds → R J H'
  | .exc x ρ' => Xc F σ x ρ' G
  | .bad => False
theorem piI {e : Expr} {t t' : TI} (h : PI X tg e t) (i : ∀ σ H Q, t' σ H Q → t σ H Q) : PI X tg e t' := ⟨fun pins s σ H Q I q => h.run pins s σ H Q I (i _ _ _ q)⟩
/-- a list, a tuple, a text -/
def iAny (K : Frg) (te : TE) : TI := fun σ H R => te σ H fun x H1 => (∃ a, x = .ref a ∧ (∃ xs, SqL K H1 a xs) ∧ R (Itl K a) H1) ∨ (∃ a, x = .ref a ∧ (∃ xs, SqT K H1 a xs) ∧ R (Itt K a) H1) ∨ ∃ z, x = .str z ∧ R (Its z) H1
theorem pi_any {te : TE} (hl : PE X e te) : PI X tg e (iAny X.K te) := by
  refine ⟨fun pins s σ H R I h => ?_⟩
  refine thn (hl.run pins s σ H _ I h) fun v s1 ⟨x, H1, I1, r1, q1⟩ => ?_
  rcases q1 with ⟨a, e, ⟨xs, hq⟩, q⟩ | ⟨a, e, ⟨xs, hq⟩, q⟩ | ⟨z, e, q⟩
  · subst e
    cases r1
    obtain ⟨its, rv, p, hz⟩ := I1.list hq
    refine wpAny_pyIter_list p.isList ?_
    refine ⟨s1.heap.objs.size, [s1.heap.objs.size], _, _, H1, rfl, I1.kept (t' := s1.toks) fun b o e => Heap.get?_push_of_some _ e, turn_list a _, ⟨_, Heap.get?_push_size _ rfl, rfl, rfl⟩, fun b hb => ?_, q⟩
    have e : b = s1.heap.objs.size := by simpa using hb
    subst e
    exact I1.fpOk (Nat.le_refl _) (I1.hok.fresh (Nat.le_refl _))
  · subst e
    cases r1
    obtain ⟨its, rv, p, hz⟩ := I1.tuple hq
    refine wpAny_pyIter_tuple (show s1.heap.IsTuple a its.toArray from p) ?_
    refine ⟨s1.heap.objs.size, [s1.heap.objs.size], _, _, H1, rfl, I1.kept (t' := s1.toks) fun b o e => Heap.get?_push_of_some _ e, turn_tuple a _, ⟨_, Heap.get?_push_size _ rfl, rfl, rfl⟩, fun b hb => ?_, q⟩
    have e : b = s1.heap.objs.size := by simpa using hb
    subst e
    exact I1.fpOk (Nat.le_refl _) (I1.hok.fresh (Nat.le_refl _))
  · subst e
    obtain ⟨t, rfl⟩ := r1
    cases ha : z.cps.all (· < 128)
    · exact wpAny_pyIter_wide ha (pi_one (tk := s1.toks) I1 _ (turn_str _ z t "str_iterator" (.inr rfl)) ⟨_, Heap.get?_push_size _ rfl, rfl, rfl⟩ q)
    · exact wpAny_pyIter_ascii ha (pi_one (tk := s1.toks) I1 _ (turn_str _ z t "str_ascii_iterator" (.inl rfl)) ⟨_, Heap.get?_push_size _ rfl, rfl, rfl⟩ q)
def seqD : D → Option (List D)
  | .tup xs => some xs
  | .lst xs => some xs
  | .str z => some (z.cps.toList.map fun c => D.str ⟨#[c]⟩)
  | .scr ns => some (ns.map D.int)
  | _ => none
def seqM (m : M D) : M (List D) := fun ρ => (m ρ).bind fun d ρ' => match seqD d with
  | some ds => .ok ds ρ'
  | none => .bad
theorem walkD_lst {K : Frg} {G : Hp} {a : Addr} {xs : List V} {ds : List D} (h : SqL K G a xs) (r : RpAll K G xs ds) : WalkD K G (Itl K a) ds where
  goes := fun i H hi s => by
    rw [← r.length] at hi
    exact ⟨xs, xs[i], s.seq h, by simp [hi]⟩
  stops := fun H s => ⟨xs, s.seq h, by rw [r.length]; exact Nat.le_refl _⟩
  yields := fun i H x H' hi s y => by
    obtain ⟨e, y⟩ := y
    obtain ⟨d, h1, h2⟩ := r.get' (y xs (s.seq h))
    exact ⟨d, h1, .inl ⟨e, h2⟩⟩
theorem walkD_tup {K : Frg} {G : Hp} {a : Addr} {xs : List V} {ds : List D} (h : SqT K G a xs) (r : RpAll K G xs ds) : WalkD K G (Itt K a) ds where
  goes := fun i H hi s => by
    rw [← r.length] at hi
    exact ⟨xs, xs[i], sqT_up s h, by simp [hi]⟩
  stops := fun H s => ⟨xs, sqT_up s h, by rw [r.length]; exact Nat.le_refl _⟩
  yields := fun i H x H' hi s y => by
    obtain ⟨e, y⟩ := y
    obtain ⟨d, h1, h2⟩ := r.get' (y xs (sqT_up s h))
    exact ⟨d, h1, .inl ⟨e, h2⟩⟩
theorem walkD_str {K : Frg} {G : Hp} {z : Str} : WalkD K G (Its z) (z.cps.toList.map fun c => D.str ⟨#[c]⟩) where
  goes := fun i H hi s => by
    show i < z.cps.size
    simpa using hi
  stops := fun H s => by
    show z.cps.size ≤ _
    simp
  yields := fun i H x H' hi s y => by
    obtain ⟨e, c, h1, rfl⟩ := y
    refine ⟨.str ⟨#[c]⟩, ?_, .inl ⟨e, .str _⟩⟩
    rw [List.getElem?_map, Array.getElem?_toList, h1]
    rfl
theorem i_seq {m : M D} {fr : Bool} (hK : X.K = F.K) (h : PE X e (rdE F m fr)) : PI X tg e (rdI F (seqM m)) := by
  refine piI (pi_any h) fun σ H R ⟨G, ρ, O, E, q⟩ => ?_
  refine rdE_hold ⟨G, ρ, O, E, ?_⟩
  unfold seqM at q
  cases e1 : m ρ with
  | bad => rw [e1] at q; exact q
  | exc x ρ1 => rw [e1] at q; exact q
  | ok d ρ1 =>
    rw [e1] at q
    intro v G1 H1 O1 E1 s1 r1
    simp only [Dv.R.bind_ok] at q
    rw [hK]
    cases r1 with
    | tup h1 h2 => exact .inr (.inl ⟨_, rfl, ⟨_, sqT_up E1.gh h1⟩, q _ G1 H1 O1 E1 s1 (walkD_tup h1 h2)⟩)
    | lst h1 h2 => exact .inl ⟨_, rfl, ⟨_, .inl (.inl (E1.gh _ _ h1))⟩, q _ G1 H1 O1 E1 s1 (walkD_lst (.inl (.inl h1)) h2)⟩
    | scr h1 => exact .inl ⟨_, rfl, ⟨_, E1.gh.seq h1⟩, q _ G1 H1 O1 E1 s1 (walkD_lst h1 (ints_rp _))⟩
    | str z => exact .inr (.inr ⟨z, rfl, q _ G1 H1 O1 E1 s1 walkD_str⟩)
    | _ => exact q.elim
/-! ### ranges -/
def rangeL (lo : Int) (n : Nat) (c : Int) : List D := (List.range n).map fun i => D.int (lo + (i : Nat) * c)
def opI (f : List D → Option (List D)) (os : List Opd) : M (List D) := fun ρ => (evO os ρ).bind fun ds ρ' => match f ds with
  | some xs => .ok xs ρ'
  | none => .bad
def OpIter (F : Fx) (f : List D → Option (List D)) (r : List V → Hp → (It → Hp → Prop) → Prop) : Prop := ∀ G H σ ρ O xs ds zs (R : It → Hp → Prop), Er F G H σ ρ O → VwAll F.K G H xs ds → f ds = some zs → (∀ J, WalkD F.K G J zs → R J H) → r xs H R
theorem opI_rd {es : List Expr} {os : List Opd} {ts : List TE} {f : List D → Option (List D)} {r : List V → Hp → (It → Hp → Prop) → Prop} (h : Ops F X es os ts) (hr : OpIter F f r) {σ : L2.St} {H : Hp} {R : It → Hp → Prop} (q : rdI F (opI f os) σ H R) : tList ts σ H fun vs H' => r vs H' R := by
  obtain ⟨G, ρ, O, E, q⟩ := q
  refine h.run σ H _ ⟨G, ρ, O, E, ?_⟩
  unfold opI at q
  cases e1 : evO os ρ with
  | bad => rw [e1] at q; exact q
  | exc x ρ1 => rw [e1] at q; exact q
  | ok ds ρ1 =>
    rw [e1] at q
    intro vs G1 H1 O1 E1 s1 a1
    simp only [Dv.R.bind_ok] at q
    cases e2 : f ds with
    | none => rw [e2] at q; exact q.elim
    | some zs =>
      rw [e2] at q
      exact hr G1 H1 σ ρ1 O1 vs ds zs R E1 (a1.vw E1) e2 fun J w => q J G1 H1 O1 E1 s1 w
def InRg (i : Int) : Prop := -(2 ^ 62) ≤ i ∧ i < 2 ^ 62
instance (i : Int) : Decidable (InRg i) := by unfold InRg; infer_instance
def rng1 : List D → Option (List D)
  | [.int j] => if InRg j then some (rangeL 0 j.toNat 1) else none
  | _ => none
def rng2 : List D → Option (List D)
  | [.int i, .int j] => if InRg i ∧ InRg j then some (rangeL i (j - i).toNat 1) else none
  | _ => none
instance (i j c : Int) (n : Nat) : Decidable (RgC i j c n) := by unfold RgC; infer_instance
def rng3 : List D → Option (List D)
  | [.int i, .int j, .int c] => if RgC i j c (Builtin.Range.rangeSize i j c).toNat then some (rangeL i (Builtin.Range.rangeSize i j c).toNat c) else none
  | _ => none
theorem walkD_range {K : Frg} {G : Hp} {lo : Int} {n : Nat} : WalkD K G (Itr lo n) (rangeL lo n 1) where
  goes := fun i H hi s => by
    show i < n
    simpa [rangeL] using hi
  stops := fun H s => by
    show n ≤ _
    simp [rangeL]
  yields := fun i H x H' hi s y => by
    obtain ⟨e, rfl⟩ := y
    have hi' : i < n := by simpa [rangeL] using hi
    refine ⟨.int (lo + i), ?_, .inl ⟨e, .int _⟩⟩
    simp [rangeL, hi']
theorem walkD_rangeC {K : Frg} {G : Hp} {lo c : Int} {n : Nat} : WalkD K G (Itc lo c n) (rangeL lo n c) where
  goes := fun i H hi s => by
    show i < n
    simpa [rangeL] using hi
  stops := fun H s => by
    show n ≤ _
    simp [rangeL]
  yields := fun i H x H' hi s y => by
    obtain ⟨e, rfl⟩ := y
    have hi' : i < n := by simpa [rangeL] using hi
    refine ⟨.int (lo + i * c), ?_, .inl ⟨e, .int _⟩⟩
    simp [rangeL, hi']
theorem i_range1 {o : Opd} {t : TE} {p : Pos} (xo : Xo F T N sc k X) (hf : ("range" : Str) ∈ T.free) (gl : Gl X "range") (h : Op1 F X a o t) (pl : plainE a = true) : PI X tg (.Call (.Name "range" p) [a] [] pos) (rdI F (opI rng1 [o])) := by
  have h' : Ops F X [a] [o] [t] := .cons h .nil
  refine piI (pi_range1 gl (xo.free _ hf) (pa_list h' (by rw [List.all_cons, pl]; rfl)) (star_of pl _ _)) fun σ H R q => ?_
  refine opI_rd (r := fun vs H1 R => ∃ j : Int, vs = [.int j] ∧ -(2 ^ 62) ≤ j ∧ j < 2 ^ 62 ∧ R (Itr 0 j.toNat) H1) h' ?_ q
  intro G H σ ρ O xs ds zs R E va e w
  unfold rng1 at e
  split at e
  · split at e
    · rename_i j hj
      cases e
      cases va with
      | cons v1 t =>
        cases t
        exact ⟨j, by rw [v1.int'], hj.1, hj.2, w _ walkD_range⟩
    · cases e
  · cases e
theorem i_range2 {oa ob : Opd} {ta tb : TE} {p : Pos} (xo : Xo F T N sc k X) (hf : ("range" : Str) ∈ T.free) (gl : Gl X "range") (ha : Op1 F X a oa ta) (hb : Op1 F X b ob tb) (pa : plainE a = true) (pb : plainE b = true) : PI X tg (.Call (.Name "range" p) [a, b] [] pos) (rdI F (opI rng2 [oa, ob])) := by
  have h' : Ops F X [a, b] [oa, ob] [ta, tb] := .cons ha (.cons hb .nil)
  refine piI (pi_range2 gl (xo.free _ hf) (pa_list h' (by rw [List.all_cons, List.all_cons, pa, pb]; rfl)) (by rw [star_of pa, star_of pb]; rfl) (star_of pb _ _)) fun σ H R q => ?_
  refine opI_rd (r := fun vs H1 R => ∃ i j : Int, vs = [.int i, .int j] ∧ (-(2 ^ 62) ≤ i ∧ i < 2 ^ 62 ∧ -(2 ^ 62) ≤ j ∧ j < 2 ^ 62) ∧ R (Itr i (j - i).toNat) H1) h' ?_ q
  intro G H σ ρ O xs ds zs R E va e w
  unfold rng2 at e
  split at e
  · split at e
    · rename_i i j hj
      cases e
      cases va with
      | cons v1 t =>
        cases t with
        | cons v2 t =>
          cases t
          exact ⟨i, j, by rw [v1.int', v2.int'], ⟨hj.1.1, hj.1.2, hj.2.1, hj.2.2⟩, w _ walkD_range⟩
    · cases e
  · cases e
theorem i_range3 {c : Expr} {oa ob oc : Opd} {ta tb tc : TE} {p : Pos} (xo : Xo F T N sc k X) (hf : ("range" : Str) ∈ T.free) (gl : Gl X "range") (ha : Op1 F X a oa ta) (hb : Op1 F X b ob tb) (hc : Op1 F X c oc tc) (pa : plainE a = true) (pb : plainE b = true) (pc : plainE c = true) : PI X tg (.Call (.Name "range" p) [a, b, c] [] pos) (rdI F (opI rng3 [oa, ob, oc])) := by
  have h' : Ops F X [a, b, c] [oa, ob, oc] [ta, tb, tc] := .cons ha (.cons hb (.cons hc .nil))
  refine piI (pi_range3 gl (xo.free _ hf) (pa_list h' (by rw [List.all_cons, List.all_cons, List.all_cons, pa, pb, pc]; rfl)) (by rw [star_of pa] <;> rfl) (by rw [star_of pb, star_of pc] <;> rfl)) fun σ H R q => ?_
  refine opI_rd (r := fun vs H1 R => ∃ (i j c : Int) (n : Nat), vs = [.int i, .int j, .int c] ∧ RgC i j c n ∧ R (Itc i c n) H1) h' ?_ q
  intro G H σ ρ O xs ds zs R E va e w
  unfold rng3 at e
  split at e
  · split at e
    · rename_i i j c hj
      cases e
      cases va with
      | cons v1 t =>
        cases t with
        | cons v2 t =>
          cases t with
          | cons v3 t =>
            cases t
            exact ⟨i, j, c, _, by rw [v1.int', v2.int', v3.int'], hj, w _ walkD_rangeC⟩
    · cases e
  · cases e
/-! ### zip -/
def zipD : List D → Option (List D)
  | [.lst xs, .lst ys] => some ((xs.zip ys).map fun q => .tup [q.1, q.2])
  | [.tup xs, .tup ys] => some ((xs.zip ys).map fun q => .tup [q.1, q.2])
  | _ => none
theorem zip_at {α β : Type} : ∀ {xs : List α} {ys : List β} {i : Nat} {x : α} {y : β}, xs[i]? = some x → ys[i]? = some y → (xs.zip ys)[i]? = some (x, y)
  | x :: xs, y :: ys, 0, _, _, h, h' => by simp at h h'; subst h h'; rfl
  | x :: xs, y :: ys, i + 1, _, _, h, h' => by
    simp only [List.getElem?_cons_succ] at h h'
    rw [List.zip_cons_cons, List.getElem?_cons_succ]
    exact zip_at h h'
  | [], _, _, _, _, h, _ => by simp at h
  | _ :: _, [], _, _, _, _, h => by simp at h
/-- the items stand for good: the two sequences are frozen ones -/
def frzM (m : M D) : M D := m
theorem i_zip {m n : M D} {fr fr' : Bool} {p tpos : Pos} {elts : List Expr} {kk : Nat} (xo : Xo F T N sc k X) (hf : ("zip" : Str) ∈ T.free) (gl : Gl X "zip") (ha : PE X a (rdE F m fr)) (hb : PE X b (rdE F n fr')) (pa : plainE a = true) (pb : plainE b = true) :
    PI X (.Tuple elts kk tpos) (.Call (.Name "zip" p) [a, b] [] pos) (rdI F (opI zipD [.ex m, .ex n])) := by
  have h' : Ops F X [a, b] [.ex m, .ex n] _ := .cons (.ex ha) (.cons (.ex hb) .nil)
  refine piI (RZ.pi_zipA gl (xo.free _ hf) (pa_list h' (by rw [List.all_cons, List.all_cons, pa, pb]; rfl)) (star_of pa _ _) (nostar _ _ (by rw [List.all_cons, pb]; rfl))) fun σ H R ⟨G, ρ, O, E, q⟩ => ?_
  refine h'.run σ H _ ⟨G, ρ, O, E, ?_⟩
  unfold opI at q
  cases e1 : evO [.ex m, .ex n] ρ with
  | bad => rw [e1] at q; exact q
  | exc x ρ1 => rw [e1] at q; exact q
  | ok ds ρ1 =>
    rw [e1] at q
    intro vs G1 H1 O1 E1 s1 a1
    simp only [Dv.R.bind_ok] at q
    have rr := a1.rp (fun o ho => by
      rcases List.mem_cons.mp ho with rfl | ho
      · exact ⟨_, rfl⟩
      · rcases List.mem_cons.mp ho with rfl | ho
        · exact ⟨_, rfl⟩
        · cases ho)
    cases rr with
    | nil => exact q.elim
    | cons r1 t =>
      cases t with
      | nil =>
        rename_i d1
        cases d1 <;> exact q.elim
      | cons r2 t =>
        cases t with
        | cons _ _ => have hl := evO_len e1; simp at hl
        | nil =>
          rw [xo.hK]
          cases r1 with
          | lst h1 h2 =>
            cases r2 with
            | lst h3 h4 =>
              rename_i pa xs ds pb ys es
              refine ⟨pa, pb, xs, ys, rfl, .inl ⟨.inl (.inl (E1.gh _ _ h1)), .inl (.inl (E1.gh _ _ h3)), q _ G1 H1 O1 E1 s1 ⟨fun i H hi s => ?_, fun H s => ?_, fun i H x H' hi s y => ?_⟩⟩⟩
              · simp at hi
                have l1 := h2.length
                have l2 := h4.length
                exact ⟨xs, ys, xs[i]'(by omega), ys[i]'(by omega), .inl (.inl (s _ _ h1)), .inl (.inl (s _ _ h3)), by simp [show i < xs.length by omega], by simp [show i < ys.length by omega]⟩
              · refine ⟨xs, ys, .inl (.inl (s _ _ h1)), .inl (.inl (s _ _ h3)), ?_⟩
                simp only [List.length_map, List.length_zip]
                have l1 := h2.length
                have l2 := h4.length
                omega
              · obtain ⟨T, x1, y1, rfl, hT, rfl, f1, f2⟩ := y
                obtain ⟨d1, g1, g2⟩ := h2.get' (f1 _ (.inl (.inl (s _ _ h1))))
                obtain ⟨d2, g3, g4⟩ := h4.get' (f2 _ (.inl (.inl (s _ _ h3))))
                have gT : G1 T = none := Same.free s hT
                refine ⟨.tup [d1, d2], by rw [List.getElem?_map, zip_at g1 g3]; rfl, .inr ⟨T, _, hT, rfl, .tup (.inl (.inl upd_same)) (.cons (g2.up (same_new gT)) (.cons (g4.up (same_new gT)) .nil))⟩⟩
            | _ => exact q.elim
          | tup h1 h2 =>
            cases r2 with
            | tup h3 h4 =>
              rename_i pa xs ds pb ys es
              refine ⟨pa, pb, xs, ys, rfl, .inr ⟨sqT_up E1.gh h1, sqT_up E1.gh h3, q _ G1 H1 O1 E1 s1 ⟨fun i H hi s => ?_, fun H s => ?_, fun i H x H' hi s y => ?_⟩⟩⟩
              · simp at hi
                have l1 := h2.length
                have l2 := h4.length
                exact ⟨xs, ys, xs[i]'(by omega), ys[i]'(by omega), sqT_up s h1, sqT_up s h3, by simp [show i < xs.length by omega], by simp [show i < ys.length by omega]⟩
              · refine ⟨xs, ys, sqT_up s h1, sqT_up s h3, ?_⟩
                simp only [List.length_map, List.length_zip]
                have l1 := h2.length
                have l2 := h4.length
                omega
              · obtain ⟨T, x1, y1, rfl, hT, rfl, f1, f2⟩ := y
                obtain ⟨d1, g1, g2⟩ := h2.get' (f1 _ (sqT_up s h1))
                obtain ⟨d2, g3, g4⟩ := h4.get' (f2 _ (sqT_up s h3))
                have gT : G1 T = none := Same.free s hT
                refine ⟨.tup [d1, d2], by rw [List.getElem?_map, zip_at g1 g3]; rfl, .inr ⟨T, _, hT, rfl, .tup (.inl (.inl upd_same)) (.cons (g2.up (same_new gT)) (.cons (g4.up (same_new gT)) .nil))⟩⟩
            | _ => exact q.elim
          | _ =>
            cases r2 <;> exact q.elim
end
end Dv
namespace Dv
open PySem L2 PyProof.Rows
/-! ### targets -/
inductive Tg where
  | nm (i : Nat) | tp (ts : List Tg)
mutual
def bindT : Tg → D → En → Option En
  | .nm i, d, ρ => some (ρ.set i (.val d))
  | .tp ts, .tup ds, ρ => bindTs ts ds ρ
  | .tp _, _, _ => none
def bindTs : List Tg → List D → En → Option En
  | [], [], ρ => some ρ
  | t :: ts, d :: ds, ρ => (bindT t d ρ).bind fun ρ' => bindTs ts ds ρ'
  | _, _, _ => none
end
mutual
def tgSlots : Tg → List Nat
  | .nm i => [i]
  | .tp ts => tgsSlots ts
def tgsSlots : List Tg → List Nat
  | [] => []
  | t :: ts => tgSlots t ++ tgsSlots ts
end
section
variable {F : Fx} {T : Tab} {N : List Str} {sc : Scope} {k : Nat} {X : Cx} {e a b tg : Expr} {pos : Pos}
theorem Er.set {G H : Hp} {σ : L2.St} {ρ : En} {O : Nat → List Addr} (E : Er F G H σ ρ O) (i : Nat) {v : V} {d : D} (r : Rp F.K G v d) : Er F G H (σ.set i (some v)) (ρ.set i (.val d)) O := by
  have key : ∀ {j : Nat} {s : Sl}, (ρ.set i (.val d))[j]? = some s → (j = i ∧ s = .val d ∧ (σ.set i (some v))[j]? = some (some v)) ∨ (ρ[j]? = some s ∧ (σ.set i (some v))[j]? = σ[j]?) := fun {j s} z => by
    by_cases hj : j = i
    · subst hj
      by_cases hi : j < ρ.length
      · rw [List.getElem?_set_self hi] at z
        cases z
        exact .inl ⟨rfl, rfl, List.getElem?_set_self (by rw [← E.len]; exact hi)⟩
      · rw [List.getElem?_eq_none (by rw [List.length_set]; omega)] at z; cases z
    · rw [List.getElem?_set_ne (Ne.symm hj)] at z
      exact .inr ⟨z, List.getElem?_set_ne (Ne.symm hj)⟩
  refine ⟨by rw [List.length_set, List.length_set]; exact E.len, E.g0, E.h0, E.gh, E.new, fun j d' z => ?_, fun j d' z => ?_, fun j j2 d1 d2 ne z1 z2 => ?_, fun a o e => ?_⟩
  · rcases key z with ⟨rfl, e, h⟩ | ⟨z, h⟩
    · cases e
      exact ⟨v, h, r⟩
    · rw [h]; exact E.val j d' z
  · rcases key z with ⟨rfl, e, h⟩ | ⟨z, h⟩
    · cases e
    · rw [h]; exact E.own j d' z
  · rcases key z1 with ⟨_, e, _⟩ | ⟨z1, _⟩
    · cases e
    · rcases key z2 with ⟨_, e, _⟩ | ⟨z2, _⟩
      · cases e
      · exact E.dis j j2 d1 d2 ne z1 z2
  · obtain ⟨h1, h2, h3⟩ := E.held a o e
    refine ⟨h1, h2, fun j d' z => ?_⟩
    rcases key z with ⟨_, e, _⟩ | ⟨z, _⟩
    · cases e
    · exact h3 j d' z
/-- own slots only go -/
def Fewer (ρ ρ' : En) : Prop := ∀ (j : Nat) (d : D), ρ'[j]? = some (Sl.own d) → ρ[j]? = some (Sl.own d)
theorem Fewer.rfl {ρ : En} : Fewer ρ ρ := fun _ _ h => h
theorem Fewer.trans {a b c : En} (h : Fewer a b) (h' : Fewer b c) : Fewer a c := fun j d z => h j d (h' j d z)
theorem fewer_set {ρ : En} {i : Nat} {s : Sl} (hs : ∀ d, s ≠ .own d) : Fewer ρ (ρ.set i s) := fun j d z => by
  by_cases hj : j = i
  · subst hj
    by_cases hi : j < ρ.length
    · rw [List.getElem?_set_self hi] at z
      cases z
      exact absurd rfl (hs d)
    · rw [List.getElem?_eq_none (by rw [List.length_set]; omega)] at z; cases z
  · rw [List.getElem?_set_ne (Ne.symm hj)] at z
    exact z
theorem Stp.ofF {ρ ρ' : En} {O : Nat → List Addr} {G H : Hp} (f : Fewer ρ ρ') : Stp ρ O G H ρ' O G H := ⟨Same.refl G⟩
theorem wipe_set {σ : L2.St} {i : Nat} {x : Option V} : ∀ {vs : List Nat}, i ∈ vs → wipe (σ.set i x) vs = wipe σ vs
  | v :: vs, h => by
    unfold wipe
    by_cases hv : i ∈ vs
    · rw [wipe_set hv]
    · have e : i = v := by
        rcases List.mem_cons.mp h with h | h
        · exact h
        · exact absurd h hv
      subst e
      have e2 : wipe (σ.set i x) vs = (wipe σ vs).set i x := by
        clear h
        induction vs with
        | nil => rfl
        | cons u us ih =>
          have hu : i ≠ u := fun q => hv (by rw [q]; exact List.mem_cons_self)
          have hus : i ∉ us := fun q => hv (List.mem_cons_of_mem _ q)
          unfold wipe
          rw [ih hus, List.set_comm _ _ (fun q => hu q)]
      rw [e2, List.set_set]
mutual
def gOf (K : Frg) : Tg → TG
  | .nm i => gName i
  | .tp ts => gTup K ts.length (gsOf K ts)
def gsOf (K : Frg) : List Tg → TGs
  | [] => gNil
  | t :: ts => gCons (gOf K t) (gsOf K ts)
end
theorem wipe_wipe {σ σ' σ2 : L2.St} {vs : List Nat} (h : wipe σ' vs = wipe σ vs) (h2 : wipe σ2 vs = wipe σ' vs) : wipe σ2 vs = wipe σ vs := h2.trans h
mutual
theorem bind_ok : ∀ (t : Tg) {v σ G H ρ O d ρ'} {Q : L2.St → Hp → Prop}, Er F G H σ ρ O → Rp F.K G v d → bindT t d ρ = some ρ' →
    (∀ σ', Er F G H σ' ρ' O → (∀ vs : List Nat, (∀ i ∈ tgSlots t, i ∈ vs) → wipe σ' vs = wipe σ vs) → Q σ' H) → gOf F.K t v σ H Q
  | .nm i, v, σ, G, H, ρ, O, d, ρ', Q, E, r, e, w => by
    simp only [bindT, Option.some.injEq] at e
    subst e
    exact w _ (E.set i r) fun vs h => wipe_set (h i (by simp [tgSlots]))
  | .tp ts, v, σ, G, H, ρ, O, d, ρ', Q, E, r, e, w => by
    cases d <;> (try (simp only [bindT, reduceCtorEq] at e))
    rename_i ds
    cases r with
    | tup h1 h2 =>
      refine ⟨_, _, rfl, sqT_up E.gh h1, ?_, ?_⟩
      · rw [h2.length, binds_len ts e]
      · exact binds_ok ts E h2 e fun σ' E' wp => w σ' E' fun vs h => wp vs (by simpa [tgSlots] using h)
theorem binds_ok : ∀ (ts : List Tg) {vs' σ G H ρ O ds ρ'} {Q : L2.St → Hp → Prop}, Er F G H σ ρ O → RpAll F.K G vs' ds → bindTs ts ds ρ = some ρ' →
    (∀ σ', Er F G H σ' ρ' O → (∀ vs : List Nat, (∀ i ∈ tgsSlots ts, i ∈ vs) → wipe σ' vs = wipe σ vs) → Q σ' H) → gsOf F.K ts vs' σ H Q
  | [], vs', σ, G, H, ρ, O, ds, ρ', Q, E, r, e, w => by
    cases r with
    | nil =>
      simp only [bindTs, Option.some.injEq] at e
      subst e
      exact ⟨rfl, w σ E fun _ _ => rfl⟩
    | cons _ _ => simp [bindTs] at e
  | t :: ts, vs', σ, G, H, ρ, O, ds, ρ', Q, E, r, e, w => by
    cases r with
    | nil => simp [bindTs] at e
    | cons r1 r2 =>
      rename_i v vs1 d1 ds1
      simp only [bindTs] at e
      cases e1 : bindT t d1 ρ with
      | none => rw [e1] at e; cases e
      | some ρ1 =>
        rw [e1] at e
        refine ⟨_, _, rfl, bind_ok t E r1 e1 fun σ1 E1 wp1 => binds_ok ts E1 r2 e fun σ2 E2 wp2 => w σ2 E2 fun vs h => ?_⟩
        exact (wp2 vs fun i hi => h i (by simp [tgsSlots, hi])).trans (wp1 vs fun i hi => h i (by simp [tgsSlots, hi]))
theorem binds_len : ∀ (ts : List Tg) {ds : List D} {ρ ρ' : En}, bindTs ts ds ρ = some ρ' → ds.length = ts.length
  | [], [], _, _, _ => rfl
  | [], _ :: _, _, _, e => by simp [bindTs] at e
  | _ :: _, [], _, _, e => by simp [bindTs] at e
  | t :: ts, d :: ds, ρ, ρ', e => by
    simp only [bindTs] at e
    cases e1 : bindT t d ρ with
    | none => rw [e1] at e; cases e
    | some ρ1 =>
      rw [e1] at e
      rw [List.length_cons, List.length_cons, binds_len ts e]
end
def tgPlain : Expr → Bool
  | .Name _ _ => true
  | .Tuple _ _ _ => true
  | _ => false
theorem asg_each {e : Expr} {es : List Expr} {env : PySem.Env} (h : tgPlain e = true) : assignEach (e :: es) env = (false, assign e env) :: assignEach es env := by
  cases e <;> first | rfl | cases h
theorem asg_len {env : PySem.Env} : ∀ {es : List Expr}, es.all tgPlain = true → (assignEach es env).length = es.length ∧ (assignEach es env).findIdx? (·.1) = none
  | [], _ => ⟨rfl, rfl⟩
  | e :: es, h => by
    rw [List.all_cons, Bool.and_eq_true] at h
    obtain ⟨h1, h2⟩ := asg_len (env := env) h.2
    rw [asg_each h.1]
    refine ⟨by rw [List.length_cons, List.length_cons, h1], ?_⟩
    rw [List.findIdx?_cons, h2]
    rfl
theorem pg_nm {i : Nat} {x : Str} (hN : X.N.Nodup) (hi : X.N[i]? = some x) (hx : Loc X.env.scope x) (hf : X.fn x = true ∨ X.env.scope.names.lookup x = some .local) : PG X (.Name x pos) (gOf X.K (.nm i)) := pg_name hN hi hx hf
theorem pgs_c {es : List Expr} {t : Tg} {ts : List Tg} (h1 : PG X e (gOf X.K t)) (h2 : PGs X es (gsOf X.K ts)) (p : tgPlain e = true) : PGs X (e :: es) (gsOf X.K (t :: ts)) :=
  pgs_cons h1 h2 (by rw [asg_each p]; rfl)
theorem pg_tp {es : List Expr} {x1 : Nat} {ts : List Tg} (hc : X.calm = true) (h : PGs X es (gsOf X.K ts)) (p : es.all tgPlain = true) (hl : es.length = ts.length) : PG X (.Tuple es x1 pos) (gOf X.K (.tp ts)) :=
  pg_tup hc h ((asg_len p).1.trans hl) (asg_len p).2
end
end Dv
namespace Dv
open PySem L2 PyProof.Rows
/-! ### a comprehension's own slots -/
def wipeE : List Nat → En → En
  | [], ρ => ρ
  | v :: vs, ρ => (wipeE vs ρ).set v .no
def restore : List Nat → En → En → En
  | [], _, ρ => ρ
  | v :: vs, ρ1, ρ => (restore vs ρ1 ρ).set v ((ρ1[v]?).getD .no)
def freeSlots (vs : List Nat) (ρ : En) : Bool := vs.all fun v => match ρ[v]? with
  | some (.own _) => false
  | _ => true
theorem wipeE_len : ∀ (vs : List Nat) (ρ : En), (wipeE vs ρ).length = ρ.length
  | [], _ => rfl
  | v :: vs, ρ => by unfold wipeE; rw [List.length_set, wipeE_len vs]
theorem restore_len : ∀ (vs : List Nat) (ρ1 ρ : En), (restore vs ρ1 ρ).length = ρ.length
  | [], _, _ => rfl
  | v :: vs, ρ1, ρ => by unfold restore; rw [List.length_set, restore_len vs]
theorem wipeE_at : ∀ (vs : List Nat) {ρ : En} {j : Nat} {s : Sl}, (wipeE vs ρ)[j]? = some s → (s = .no) ∨ (j ∉ vs ∧ ρ[j]? = some s)
  | [], ρ, j, s, h => .inr ⟨by simp, h⟩
  | v :: vs, ρ, j, s, h => by
    unfold wipeE at h
    by_cases hj : j = v
    · subst hj
      by_cases hi : j < (wipeE vs ρ).length
      · rw [List.getElem?_set_self hi] at h; cases h; exact .inl rfl
      · rw [List.getElem?_eq_none (by rw [List.length_set]; omega)] at h; cases h
    · rw [List.getElem?_set_ne (Ne.symm hj)] at h
      rcases wipeE_at vs h with e | ⟨a, b⟩
      · exact .inl e
      · exact .inr ⟨by simp only [List.mem_cons, not_or]; exact ⟨hj, a⟩, b⟩
theorem restore_at : ∀ (vs : List Nat) {ρ1 ρ : En} {j : Nat} {s : Sl}, (restore vs ρ1 ρ)[j]? = some s → (j ∈ vs ∧ s = (ρ1[j]?).getD .no) ∨ (j ∉ vs ∧ ρ[j]? = some s)
  | [], ρ1, ρ, j, s, h => .inr ⟨by simp, h⟩
  | v :: vs, ρ1, ρ, j, s, h => by
    unfold restore at h
    by_cases hj : j = v
    · subst hj
      by_cases hi : j < (restore vs ρ1 ρ).length
      · rw [List.getElem?_set_self hi] at h; cases h; exact .inl ⟨List.mem_cons_self, rfl⟩
      · rw [List.getElem?_eq_none (by rw [List.length_set]; omega)] at h; cases h
    · rw [List.getElem?_set_ne (Ne.symm hj)] at h
      rcases restore_at vs h with ⟨e, e2⟩ | ⟨a, b⟩
      · exact .inl ⟨List.mem_cons_of_mem _ e, e2⟩
      · exact .inr ⟨by simp only [List.mem_cons, not_or]; exact ⟨hj, a⟩, b⟩
/-- the list of a comprehension, item by item -/
def compL (own : List Nat) (tg : Tg) (cond : M Bool) (elt : M D) : List D → M (List D)
  | [], ρ => .ok [] ρ
  | d :: ds, ρ => match bindT tg d ρ with
    | none => .bad
    | some ρ1 => (match cond ρ1 with
      | .ok true ρ2 => (match elt ρ2 with
        | .ok e ρ3 => (match compL own tg cond elt ds (wipeE own ρ3) with
          | .ok es ρ4 => .ok (e :: es) ρ4
          | .exc x ρ4 => .exc x ρ4
          | .bad => .bad)
        | _ => .bad)
      | .ok false ρ2 => compL own tg cond elt ds (wipeE own ρ2)
      | _ => .bad)
def compM (mi : M (List D)) (own : List Nat) (tg : Tg) (cond : M Bool) (elt : M D) : M D := fun ρ => (mi ρ).bind fun ds ρ1 =>
  if freeSlots own ρ1 = true ∧ ds.length ≤ 16000000 then
    (match compL own tg cond elt ds (wipeE own ρ1) with
    | .ok es ρ2 => .ok (.lst es) (restore own ρ1 ρ2)
    | _ => .bad)
  else .bad
def yesM : M Bool := fun ρ => .ok true ρ
/-- the same, objects held aside, no exception let out -/
abbrev Fx.in' (F : Fx) (B : Hp) : Fx := { F with B := B, W := fun _ _ _ _ => False }
section
variable {F : Fx} {T : Tab} {N : List Str} {sc : Scope} {k : Nat} {X : Cx} {e a b tg : Expr} {pos : Pos}
theorem Er.wiped {G H : Hp} {σ : L2.St} {ρ : En} {O : Nat → List Addr} (E : Er F G H σ ρ O) (vs : List Nat) : Er F G H (wipe σ vs) (wipeE vs ρ) O where
  len := by rw [wipeE_len, wipe_length]; exact E.len
  g0 := E.g0
  h0 := E.h0
  gh := E.gh
  new := E.new
  val := fun i d q => by
    rcases wipeE_at vs q with e | ⟨hn, q⟩
    · cases e
    · rw [wipe_out hn]; exact E.val i d q
  own := fun i d q => by
    rcases wipeE_at vs q with e | ⟨hn, q⟩
    · cases e
    · rw [wipe_out hn]; exact E.own i d q
  dis := fun i j d e ne q1 q2 => by
    rcases wipeE_at vs q1 with z | ⟨_, q1⟩
    · cases z
    · rcases wipeE_at vs q2 with z | ⟨_, q2⟩
      · cases z
      · exact E.dis i j d e ne q1 q2
  held := fun a o e => by
    obtain ⟨h1, h2, h3⟩ := E.held a o e
    refine ⟨h1, h2, fun j d q => ?_⟩
    rcases wipeE_at vs q with z | ⟨_, q⟩
    · cases z
    · exact h3 j d q
theorem Er.aside {G H : Hp} {σ : L2.St} {ρ : En} {O : Nat → List Addr} (E : Er F G H σ ρ O) {B : Hp} {W : WX} (h : ∀ a o, B a = some o → H a = some o ∧ G a = none ∧ NotOwned ρ O a) : Er { F with B := B, W := W } G H σ ρ O :=
  ⟨E.len, E.g0, E.h0, E.gh, E.new, E.val, E.own, E.dis, h⟩
theorem Er.unwipe {G1 H1 G H : Hp} {σ : L2.St} {ρ1 ρ : En} {O1 O : Nat → List Addr} {vs : List Nat} {B : Hp} {W : WX} (E1 : Er F G1 H1 σ ρ1 O1) (fr : freeSlots vs ρ1 = true) (s : Same G1 G) (E : Er { F with B := B, W := W } G H (wipe σ vs) ρ O) (hB : ∀ a o, F.B a = some o → B a = some o) (hl : ρ.length = ρ1.length) :
    Er F G H σ (restore vs ρ1 ρ) O := by
  have notown : ∀ {j : Nat} {d : D}, (restore vs ρ1 ρ)[j]? = some (Sl.own d) → j ∉ vs ∧ ρ[j]? = some (Sl.own d) := fun {j d} q => by
    rcases restore_at vs q with ⟨m, e⟩ | h
    · have := List.all_eq_true.mp fr j m
      cases z : ρ1[j]? with
      | none => rw [z] at e; cases e
      | some s => rw [z] at e this; simp only [Option.getD_some] at e; subst e; simp at this
    · exact h
  refine ⟨by rw [restore_len, hl]; exact E1.len, E.g0, E.h0, E.gh, E.new, fun i d q => ?_, fun i d q => ?_, fun i j d e ne q1 q2 => E.dis i j d e ne (notown q1).2 (notown q2).2, fun a o e => ?_⟩
  · rcases restore_at vs q with ⟨m, e⟩ | ⟨m, q⟩
    · cases z : ρ1[i]? with
      | none => rw [z] at e; cases e
      | some s' =>
        rw [z] at e
        simp only [Option.getD_some] at e
        subst e
        obtain ⟨v, a, b⟩ := E1.val i d z
        exact ⟨v, a, b.up s⟩
    · obtain ⟨v, a, b⟩ := E.val i d q
      rw [wipe_out m] at a
      exact ⟨v, a, b⟩
  · obtain ⟨m, q⟩ := notown q
    obtain ⟨p, o, a, b⟩ := E.own i d q
    rw [wipe_out m] at a
    exact ⟨p, o, a, b⟩
  · obtain ⟨h1, h2, h3⟩ := E.held a o (hB a o e)
    exact ⟨h1, h2, fun j d q => h3 j d (notown q).2⟩
theorem wipe_none {σ : L2.St} {v : Nat} : ∀ {us : List Nat}, v ∈ us → (wipe σ us).set v none = wipe σ us
  | u :: us, h => by
    unfold wipe
    by_cases e : v = u
    · subst e; rw [List.set_set]
    · have h' : v ∈ us := by
        rcases List.mem_cons.mp h with h | h
        · exact absurd h e
        · exact h
      rw [List.set_comm _ _ (fun q => e q.symm), wipe_none h']
theorem wipe_idem {σ : L2.St} {us : List Nat} : ∀ {vs : List Nat}, (∀ v ∈ vs, v ∈ us) → wipe (wipe σ us) vs = wipe σ us
  | [], _ => rfl
  | v :: vs, h => by
    show (wipe (wipe σ us) vs).set v none = wipe σ us
    rw [wipe_idem fun x hx => h x (List.mem_cons_of_mem _ hx), wipe_none (h v List.mem_cons_self)]
/-- a comprehension's list -/
theorem lc_rd {mi : M (List D)} {own : List Nat} {t : Tg} {cond : M Bool} {elt : M D} {fr : Bool} (hsl : ∀ i ∈ tgSlots t, i ∈ own) {σ : L2.St} {H : Hp} {Q : VK} (q : rdE F (compM mi own t cond elt) true σ H Q) :
    tLc (rdI F mi) (gOf F.K t) (fun σ H Q => ∃ B, rdT (F.in' B) cond σ H Q) (fun σ H Q => ∃ B, rdE (F.in' B) elt fr σ H Q) own σ H Q := by
  obtain ⟨G, ρ, O, E, q⟩ := q
  refine ⟨G, ρ, O, E, ?_⟩
  unfold compM at q
  cases e1 : mi ρ with
  | bad => rw [e1] at q; exact q
  | exc x ρ1 => rw [e1] at q; exact q
  | ok ds ρ1 =>
    rw [e1] at q
    simp only [Dv.R.bind_ok] at q
    intro J G1 H1 O1 E1 s1 wJ DD hD
    split at q
    rotate_left
    · rename_i h2; split at h2 <;> (try (split at h2)) <;> cases h2
    · exact q.elim
    rename_i dd ρ' h2
    split at h2
    rotate_left
    · cases h2
    rename_i hg
    cases e2 : compL own t cond elt ds (wipeE own ρ1) with
    | bad => rw [e2] at h2; cases h2
    | exc x ρ2 => rw [e2] at h2; cases h2
    | ok total ρf =>
      rw [e2] at h2
      cases h2
      -- the invariant
      let W : Nat → Hp → Prop := fun i H => ∃ G ρ O acc accV es, Er (F.in' (upd F.B DD (.lst accV))) G H (wipe σ own) ρ O ∧ Same G1 G ∧ RpAll F.K G accV acc ∧ acc.length ≤ i ∧ ρ.length = ρ1.length ∧
        compL own t cond elt (ds.drop i) ρ = .ok es ρf ∧ acc ++ es = total
      have hB0 : F.B DD = none := E1.bnone hD
      have mk : ∀ {G H σ' ρ O accV}, Er F G H σ' ρ O → H DD = none → Er (F.in' (upd F.B DD (.lst accV))) G (upd H DD (.lst accV)) σ' ρ O := fun {G H σ' ρ O accV} E hn => by
        refine (E.fresh (o := .lst accV) hn).aside fun a o e => ?_
        by_cases ha : a = DD
        · subst ha
          rw [upd_same] at e
          cases e
          exact ⟨upd_same, E.gnone hn, E.notown hn⟩
        · rw [upd_ne ha] at e
          obtain ⟨h1, h2, h3⟩ := E.held a o e
          exact ⟨by rw [upd_ne ha]; exact h1, h2, h3⟩
      refine ⟨fun i m H => m = ds.length - i ∧ i ≤ ds.length ∧ W i H, ⟨ds.length, by simp, Nat.zero_le _, G1, wipeE own ρ1, O1, [], [], total, (mk E1 hD).wiped own, srfl, .nil, Nat.le_refl _, wipeE_len _ _, by rw [List.drop_zero]; exact e2, rfl⟩, ?_⟩
      rintro i m H ⟨rfl, hi, G2, ρ2, O2, acc, accV, es, E2, s2, ra, la, ll, ec, et⟩
      have sh : Same G1 H := s2.trans E2.gh
      by_cases hlt : i < ds.length
      · refine .inr ⟨wJ.goes i H hlt sh, fun H' => W (i + 1) H', fun H' w => ⟨ds.length - (i + 1), by omega, rfl, hlt, w⟩, fun x H' y => ?_⟩
        obtain ⟨d, hd, hy⟩ := wJ.yields i H x H' hlt sh y
        -- the item stands for good
        obtain ⟨G3, s3, E3, r3⟩ : ∃ G3, Same G2 G3 ∧ Er (F.in' (upd F.B DD (.lst accV))) G3 H' (wipe σ own) ρ2 O2 ∧ Rp F.K G3 x d := by
          rcases hy with ⟨rfl, r⟩ | ⟨p, o, hp, rfl, r⟩
          · exact ⟨G2, srfl, E2, r.up s2⟩
          · have gp := E2.gnone hp
            refine ⟨upd G2 p o, same_new gp, E2.froz hp, r.up fun a u e => ?_⟩
            by_cases ha : a = p
            · subst ha; rw [upd_same] at e ⊢; exact e
            · rw [upd_ne ha] at e ⊢; exact s2 a u e
        have edrop : ds.drop i = d :: ds.drop (i + 1) := by
          have h5 : i < ds.length := hlt
          rw [List.drop_eq_getElem_cons h5]
          congr 1
          rw [List.getElem?_eq_getElem h5] at hd
          exact Option.some.inj hd
        rw [edrop] at ec
        simp only [compL] at ec
        cases e3 : bindT t d ρ2 with
        | none => rw [e3] at ec; cases ec
        | some ρ3 =>
          rw [e3] at ec
          refine bind_ok (F := F.in' (upd F.B DD (.lst accV))) t E3 r3 e3 fun σ' E4 wp => ?_
          have hw : wipe σ' own = wipe σ own := by rw [wp own hsl, wipe_idem fun _ h => h]
          have hlen : ∀ {G H ρ O accV}, Er (F.in' (upd F.B DD (.lst accV))) G H σ' ρ O → ρ.length = ρ1.length := fun E => by
            have h1 := E.len
            have h2 := E1.len
            have h3 : (wipe σ' own).length = (wipe σ own).length := by rw [hw]
            rw [wipe_length, wipe_length] at h3
            omega
          refine ⟨hw, upd F.B DD (.lst accV), G3, ρ3, O2, E4, ?_⟩
          simp only at ec
          cases e4 : cond ρ3 with
          | bad => rw [e4] at ec; cases ec
          | exc x ρ4 => rw [e4] at ec; cases ec
          | ok c ρ4 =>
            rw [e4] at ec
            intro G5 H5 O5 E5 s5
            cases c with
            | false =>
              simp only [Bool.false_eq_true, if_false] at ec ⊢
              refine ⟨G5, wipeE own ρ4, O5, acc, accV, es, ?_, (s2.trans s3).trans s5.g, ra.up (s3.trans s5.g), Nat.le_succ_of_le la, by rw [wipeE_len]; exact hlen E5, ec, et⟩
              rw [← hw]
              exact E5.wiped own
            | true =>
              simp only [if_true] at ec ⊢
              refine ⟨upd F.B DD (.lst accV), rdE_hold ⟨G5, ρ4, O5, E5, ?_⟩⟩
              cases e5 : elt ρ4 with
              | bad => rw [e5] at ec; cases ec
              | exc x ρ5 => rw [e5] at ec; cases ec
              | ok ed ρ5 =>
                rw [e5] at ec
                intro y G6 H6 O6 E6 s6 r6
                simp only at ec
                cases e6 : compL own t cond elt (ds.drop (i + 1)) (wipeE own ρ5) with
                | bad => rw [e6] at ec; cases ec
                | exc x ρ6 => rw [e6] at ec; cases ec
                | ok es' ρ6 =>
                  rw [e6] at ec
                  cases ec
                  obtain ⟨hh1, hh2, hh3⟩ := E6.held DD _ upd_same
                  have sG : Same G2 G6 := (s3.trans s5.g).trans s6.g
                  have ra6 : RpAll F.K G6 accV acc := ra.up sG
                  refine ⟨accV, hh1, ?_, ?_⟩
                  · rw [ra6.length, sizeLine_eq]
                    have := hg.2
                    omega
                  · refine ⟨G6, wipeE own ρ5, O6, acc ++ [ed], accV ++ [y], es', ?_, s2.trans sG, ra6.append (.cons r6 .nil), by rw [List.length_append]; simpa using la, by rw [wipeE_len]; exact hlen E6, e6, by rw [List.append_assoc]; exact et⟩
                    rw [← hw]
                    refine Er.wiped ?_ own
                    -- the accumulator grew
                    have ne : ∀ {a}, a ≠ DD → upd H6 DD (.lst (accV ++ [y])) a = H6 a := fun h => upd_ne h
                    have gne : ∀ a o, G6 a = some o → a ≠ DD := fun a o e z => by rw [z, hh2] at e; cases e
                    refine ⟨E6.len, E6.g0, fun a o e => ?_, fun a o e => by rw [ne (gne a o e)]; exact E6.gh a o e, E6.new, E6.val, fun j d' z => ?_, E6.dis, fun a o e => ?_⟩
                    · have : a ≠ DD := fun z => by
                        rw [z, E1.h0none hD] at e
                        cases e
                      rw [ne this]
                      exact E6.h0 a o e
                    · obtain ⟨p, o, g1, g2, g3, g4, g5⟩ := E6.own j d' z
                      have : p ≠ DD := fun q => hh3 j d' z (by rw [g2, q]; simp)
                      exact ⟨p, o, g1, g2, by rw [ne this]; exact g3, g4, g5⟩
                    · replace e : upd F.B DD (.lst (accV ++ [y])) a = some o := e
                      by_cases ha : a = DD
                      · subst ha
                        rw [upd_same] at e
                        cases e
                        exact ⟨upd_same, hh2, hh3⟩
                      · rw [upd_ne ha] at e
                        obtain ⟨g1, g2, g3⟩ := E6.held a o (show upd F.B DD (.lst accV) a = some o by rw [upd_ne ha]; exact e)
                        exact ⟨by rw [ne ha]; exact g1, g2, g3⟩
      · have ei : i = ds.length := by omega
        subst ei
        rw [List.drop_length] at ec
        simp only [compL] at ec
        cases ec
        rw [List.append_nil] at et
        subst et
        refine .inl ⟨wJ.stops H sh, ?_⟩
        obtain ⟨hh1, hh2, hh3⟩ := E2.held DD _ upd_same
        have Ef := Er.unwipe E1 hg.1 s2 E2 (fun a o e => by rw [upd_ne (ne_of_none e hB0)]; exact e) ll
        refine q _ G2 H O2 Ef (s1.trans (.ofG s2)) (.inl ⟨DD, _, rfl, rfl, hh1, hh2, E1.h0none hD, hB0, fun j d' z => ?_, .lst ra⟩)
        rcases restore_at own z with ⟨m, e⟩ | ⟨_, z⟩
        · have := List.all_eq_true.mp hg.1 j m
          cases z2 : ρ1[j]? with
          | none => rw [z2] at e; cases e
          | some s => rw [z2] at e this; simp only [Option.getD_some] at e; subst e; simp at this
        · exact hh3 j d' z
end
end Dv
namespace Dv
open PySem L2 PyProof.Rows
section
variable {F : Fx} {T : Tab} {N : List Str} {sc : Scope} {k : Nat} {X : Cx} {e a b tg : Expr} {pos : Pos}
theorem e_lc {elt iter : Expr} {ifs : List Expr} {scope : Scope} {own : List (Str × Nat)} {mi : M (List D)} {t : Tg} {cond : M Bool} {m : M D} {fr : Bool} (o : Xo F T N sc k X) (hi : PI X tg iter (rdI F mi)) (ok : BlkOk X.N X.env.scope scope own)
    (hsl : ∀ i ∈ tgSlots t, i ∈ own.map (·.2)) (pi : plainE iter = true)
    (hg : ∀ (s : Shared) (H : Hp) (C : Addr) (cl : List (Str × Addr)) (fp : List Addr), PG (X.blk s H scope (compEnvC scope cl C X.env) fp) tg (gOf X.K t))
    (ht : ∀ (s : Shared) (H : Hp) (C : Addr) (cl : List (Str × Addr)) (fp : List Addr) (B : Hp), PTs (X.blk s H scope (compEnvC scope cl C X.env) fp) ifs (rdT (F.in' B) cond))
    (he : ∀ (s : Shared) (H : Hp) (C : Addr) (cl : List (Str × Addr)) (fp : List Addr) (B : Hp), PE (X.blk s H scope (compEnvC scope cl C X.env) fp) elt (rdE (F.in' B) m fr)) :
    PE X (.ListComp elt [⟨tg, iter, ifs, 0⟩] scope pos) (rdE F (compM mi (own.map (·.2)) t cond m) true) := by
  have nd : X.N.Nodup := by rw [o.hN]; exact o.nd
  refine peI (pe_lc (g := gOf X.K t) (tt := fun σ H Q => ∃ B, rdT (F.in' B) cond σ H Q) (te := fun σ H Q => ∃ B, rdE (F.in' B) m fr σ H Q) o.calm nd hi ok hg (fun s H C cl fp => ⟨fun pins s' σ H' Q I ⟨B, q⟩ => (ht s H C cl fp B).run pins s' σ H' Q I q⟩) (fun s H C cl fp => ⟨fun pins s' σ H' Q I ⟨B, q⟩ => (he s H C cl fp B).run pins s' σ H' Q I q⟩) ?_) fun σ H Q q => ?_
  · intro x
    cases iter <;> first | rfl | cases pi
  · rw [o.hK]
    exact lc_rd hsl q
/-! ### statements -/
inductive Fl where
  | nx | ret (d : D) | bk | ct
abbrev S := M Fl
def Post (F : Fx) (D : Ends) (G : Hp) : R Fl → Prop
  | .ok .nx ρ' => ∀ σ' G' H' O', Er F G' H' σ' ρ' O' → Same G G' → D.nx σ' H'
  | .ok (.ret d) ρ' => ∀ v σ' G' H' O', Er F G' H' σ' ρ' O' → Same G G' → Rv F G' H' ρ' O' true v d → D.rt v H'
  | .ok .bk ρ' => ∀ σ' G' H' O', Er F G' H' σ' ρ' O' → Same G G' → D.bk σ' H'
  | .ok .ct ρ' => ∀ σ' G' H' O', Er F G' H' σ' ρ' O' → Same G G' → D.ct σ' H'
  | .exc x ρ' => ∀ σ', Xc F σ' x ρ' G
  | .bad => False
theorem Post.up {D : Ends} {G G' : Hp} {r : R Fl} (h : Post F D G r) (s : Same G G') : Post F D G' r := by
  cases r with
  | ok f ρ =>
    cases f with
    | nx => exact fun σ' G2 H' O' E s2 => h σ' G2 H' O' E (s.trans s2)
    | ret d => exact fun v σ' G2 H' O' E s2 => h v σ' G2 H' O' E (s.trans s2)
    | bk => exact fun σ' G2 H' O' E s2 => h σ' G2 H' O' E (s.trans s2)
    | ct => exact fun σ' G2 H' O' E s2 => h σ' G2 H' O' E (s.trans s2)
  | exc x ρ => exact fun σ' => (h σ').up s
  | bad => exact h
def rdS (F : Fx) (s : S) : TS := fun D σ H => ∃ G ρ O, Er F G H σ ρ O ∧ Post F D G (s ρ)
/-- a part of a statement that gives a value, then the rest -/
theorem rdE_stmt {m : M D} {fr : Bool} {f : D → S} {D0 : Ends} {σ : L2.St} {H : Hp} {Q : VK} {G : Hp} {ρ : En} {O : Nat → List Addr} (E : Er F G H σ ρ O) (q : Post F D0 G ((m ρ).bind f))
    (h : ∀ v d ρ1 G1 H1 O1, Er F G1 H1 σ ρ1 O1 → Same G G1 → Rv F G1 H1 ρ1 O1 fr v d → Post F D0 G1 (f d ρ1) → Q v H1) : rdE F m fr σ H Q := by
  refine ⟨G, ρ, O, E, ?_⟩
  cases e1 : m ρ with
  | bad => rw [e1] at q; exact q
  | exc x ρ1 => rw [e1] at q; exact q σ
  | ok d ρ1 =>
    rw [e1] at q
    exact fun v G1 H1 O1 E1 s1 r1 => h v d ρ1 G1 H1 O1 E1 s1.g r1 (Post.up q s1.g)
theorem rdT_stmt {m : M Bool} {f : Bool → S} {D0 : Ends} {σ : L2.St} {H : Hp} {Q : Bool → Hp → Prop} {G : Hp} {ρ : En} {O : Nat → List Addr} (E : Er F G H σ ρ O) (q : Post F D0 G ((m ρ).bind f))
    (h : ∀ b ρ1 G1 H1 O1, Er F G1 H1 σ ρ1 O1 → Same G G1 → Post F D0 G1 (f b ρ1) → Q b H1) : rdT F m σ H Q := by
  refine ⟨G, ρ, O, E, ?_⟩
  cases e1 : m ρ with
  | bad => rw [e1] at q; exact q
  | exc x ρ1 => rw [e1] at q; exact q σ
  | ok d ρ1 =>
    rw [e1] at q
    exact fun G1 H1 O1 E1 s1 => h d ρ1 G1 H1 O1 E1 s1.g (Post.up q s1.g)
/-! ### blocks -/
def nxS : S := fun ρ => .ok .nx ρ
def bkS : S := fun ρ => .ok .bk ρ
def ctS : S := fun ρ => .ok .ct ρ
def seqS (s t : S) : S := fun ρ => match s ρ with
  | .ok .nx ρ' => t ρ'
  | r => r
theorem ss_nil : PSs X [] (rdS F nxS) := pssI pss_nil fun D σ H ⟨G, ρ, O, E, q⟩ => q σ G H O E srfl
theorem seq_rd {s t : S} {D : Ends} {σ : L2.St} {H : Hp} (q : rdS F (seqS s t) D σ H) : tSeq (rdS F s) (rdS F t) D σ H := by
  obtain ⟨G, ρ, O, E, q⟩ := q
  refine ⟨G, ρ, O, E, ?_⟩
  unfold seqS at q
  cases e : s ρ with
  | bad => rw [e] at q; exact q
  | exc x ρ' => rw [e] at q; exact q
  | ok f ρ' =>
    rw [e] at q
    cases f with
    | nx => exact fun σ' G' H' O' E' s' => ⟨G', ρ', O', E', Post.up q s'⟩
    | ret d => exact q
    | bk => exact q
    | ct => exact q
theorem ss_cons {st : Stmt} {rest : List Stmt} {s t : S} (h1 : PS X st (rdS F s)) (h2 : PSs X rest (rdS F t)) : PSs X (st :: rest) (rdS F (seqS s t)) := pssI (pss_cons h1 h2) fun _ _ _ q => seq_rd q
theorem ss_one {st : Stmt} {s : S} (h1 : PS X st (rdS F s)) : PSs X [st] (rdS F s) := pss_one h1
theorem s_pass : PS X (.Pass pos) (rdS F nxS) := psI ps_pass fun D σ H ⟨G, ρ, O, E, q⟩ => q σ G H O E srfl
theorem s_break : PS X (.Break pos) (rdS F bkS) := psI ps_break fun D σ H ⟨G, ρ, O, E, q⟩ => q σ G H O E srfl
theorem s_cont : PS X (.Continue pos) (rdS F ctS) := psI ps_continue fun D σ H ⟨G, ρ, O, E, q⟩ => q σ G H O E srfl
theorem s_doc {x : Str} {j : Nat} {pos' : Pos} : PS X (.Expr (.Constant (.str x) j pos) pos') (rdS F nxS) := psI ps_doc fun D σ H ⟨G, ρ, O, E, q⟩ => q σ G H O E srfl
/-! ### return -/
def retS (m : M D) (fr : Bool) : S := fun ρ => (m ρ).bind fun d ρ' => if fr = false ∧ isMut d = true then .bad else .ok (.ret d) ρ'
theorem s_ret {m : M D} {fr : Bool} (h : PE X e (rdE F m fr)) : PS X (.Return (some e) pos) (rdS F (retS m fr)) := by
  refine psI (ps_ret h) fun D σ H ⟨G, ρ, O, E, q⟩ => ?_
  refine rdE_stmt E q fun v d ρ1 G1 H1 O1 E1 s1 r1 q1 => ?_
  split at q1
  · exact q1.elim
  · rename_i hn
    refine q1 v σ G1 H1 O1 E1 srfl ?_
    cases fr with
    | true => exact r1
    | false =>
      rcases r1 with ⟨p, o, z, _⟩ | ⟨_, r1⟩
      · cases z
      · refine .inr ⟨fun _ => ?_, r1⟩
        cases z : isMut d with
        | false => rfl
        | true => exact absurd ⟨rfl, z⟩ hn
def retNS : S := fun ρ => .ok (.ret .non) ρ
theorem s_retN : PS X (.Return none pos) (rdS F retNS) := psI ps_retN fun D σ H ⟨G, ρ, O, E, q⟩ => q .non σ G H O E srfl rv_non
/-- the list that a slot owns goes out -/
def retV (i : Nat) : S := fun ρ => match ρ[i]? with
  | some (.val d) => if isMut d then .bad else .ok (.ret d) ρ
  | some (.own d) => .ok (.ret d) (ρ.set i .no)
  | _ => .bad
theorem Er.drop {G H : Hp} {σ : L2.St} {ρ : En} {O : Nat → List Addr} (E : Er F G H σ ρ O) (i : Nat) : Er F G H σ (ρ.set i .no) O := by
  have key : ∀ {j : Nat} {s : Sl}, (ρ.set i .no)[j]? = some s → s = .no ∨ (j ≠ i ∧ ρ[j]? = some s) := fun {j s} z => by
    by_cases hj : j = i
    · subst hj
      by_cases hi : j < ρ.length
      · rw [List.getElem?_set_self hi] at z; cases z; exact .inl rfl
      · rw [List.getElem?_eq_none (by rw [List.length_set]; omega)] at z; cases z
    · rw [List.getElem?_set_ne (Ne.symm hj)] at z
      exact .inr ⟨hj, z⟩
  refine ⟨by rw [List.length_set]; exact E.len, E.g0, E.h0, E.gh, E.new, fun j d z => ?_, fun j d z => ?_, fun j j2 d d2 ne z1 z2 => ?_, fun a o e => ?_⟩
  · rcases key z with e | ⟨_, z⟩
    · cases e
    · exact E.val j d z
  · rcases key z with e | ⟨_, z⟩
    · cases e
    · exact E.own j d z
  · rcases key z1 with e | ⟨_, z1⟩
    · cases e
    · rcases key z2 with e | ⟨_, z2⟩
      · cases e
      · exact E.dis j j2 d d2 ne z1 z2
  · obtain ⟨h1, h2, h3⟩ := E.held a o e
    refine ⟨h1, h2, fun j d z => ?_⟩
    rcases key z with e | ⟨_, z⟩
    · cases e
    · exact h3 j d z
theorem s_retV {i : Nat} (h : PE X e (tVar i)) : PS X (.Return (some e) pos) (rdS F (retV i)) := by
  refine psI (ps_ret h) fun D σ H ⟨G, ρ, O, E, q⟩ => ?_
  unfold retV at q
  cases e1 : ρ[i]? with
  | none => rw [e1] at q; exact q.elim
  | some s =>
    rw [e1] at q
    cases s with
    | no => exact q.elim
    | val d =>
      obtain ⟨v, hv, r⟩ := E.val i d e1
      simp only at q
      cases z : isMut d with
      | true => rw [z] at q; exact q.elim
      | false =>
        rw [z] at q
        exact ⟨v, hv, q v σ G H O E srfl (.inr ⟨fun _ => z, r⟩)⟩
    | own d =>
      obtain ⟨p, o, h1, h2, h3, h4, h5, h6⟩ := E.own i d e1
      refine ⟨_, h1, q _ σ G H O (E.drop i) srfl (.inl ⟨p, o, rfl, rfl, h3, h4, h5, ?_, ?_, h6⟩)⟩
      · cases z : F.B p with
        | none => rfl
        | some u => exact absurd (show p ∈ O i by rw [h2]; simp) ((E.held p u z).2.2 i d e1)
      · intro j d' z hm
        by_cases hj : j = i
        · subst hj
          by_cases hi : j < ρ.length
          · rw [List.getElem?_set_self hi] at z; cases z
          · rw [List.getElem?_eq_none (by rw [List.length_set]; omega)] at z; cases z
        · rw [List.getElem?_set_ne (Ne.symm hj)] at z
          exact E.dis i j d d' (Ne.symm hj) e1 z p (by rw [h2]; simp) hm
/-! ### if -/
def ifS (c : M Bool) (s t : S) : S := fun ρ => (c ρ).bind fun b ρ' => if b = true then s ρ' else t ρ'
theorem s_if {c : Expr} {sa sb : List Stmt} {m : M Bool} {s t : S} (hc : PT X c (rdT F m)) (ha : PSs X sa (rdS F s)) (hb : PSs X sb (rdS F t)) : PS X (.If c sa sb pos) (rdS F (ifS m s t)) := by
  refine psI (ps_if hc ha hb) fun D σ H ⟨G, ρ, O, E, q⟩ => ?_
  refine rdT_stmt E q fun b ρ1 G1 H1 O1 E1 s1 q1 => ?_
  cases b with
  | true => exact ⟨G1, ρ1, O1, E1, q1⟩
  | false => exact ⟨G1, ρ1, O1, E1, q1⟩
/-! ### assignments -/
def slotOf (fr : Bool) (d : D) : Sl := if fr = true ∧ isMut d = true then .own d else .val d
def asgS (i : Nat) (m : M D) (fr : Bool) : S := fun ρ => (m ρ).bind fun d ρ' => .ok .nx (ρ'.set i (slotOf fr d))
theorem Er.setOwn {G H : Hp} {σ : L2.St} {ρ : En} {O : Nat → List Addr} (E : Er F G H σ ρ O) (i : Nat) {p : Addr} {o : HO} {d : D} (h1 : H p = some o) (h2 : G p = none) (h3 : F.H0 p = none) (hB : F.B p = none) (no : NotOwned ρ O p) (r : Own F.K G p o d) :
    Er F G H (σ.set i (some (.ref p))) (ρ.set i (.own d)) (fun j => if j = i then [p] else O j) := by
  have key : ∀ {j : Nat} {s : Sl}, (ρ.set i (.own d))[j]? = some s → (j = i ∧ s = .own d ∧ (σ.set i (some (.ref p)))[j]? = some (some (.ref p))) ∨ (j ≠ i ∧ ρ[j]? = some s ∧ (σ.set i (some (.ref p)))[j]? = σ[j]?) := fun {j s} z => by
    by_cases hj : j = i
    · subst hj
      by_cases hi : j < ρ.length
      · rw [List.getElem?_set_self hi] at z
        cases z
        exact .inl ⟨rfl, rfl, List.getElem?_set_self (by rw [← E.len]; exact hi)⟩
      · rw [List.getElem?_eq_none (by rw [List.length_set]; omega)] at z; cases z
    · rw [List.getElem?_set_ne (Ne.symm hj)] at z
      exact .inr ⟨hj, z, List.getElem?_set_ne (Ne.symm hj)⟩
  refine ⟨by rw [List.length_set, List.length_set]; exact E.len, E.g0, E.h0, E.gh, E.new, fun j d' z => ?_, fun j d' z => ?_, fun j j2 d1 d2 ne z1 z2 => ?_, fun a u e => ?_⟩
  · rcases key z with ⟨rfl, e, h⟩ | ⟨_, z, h⟩
    · cases e
    · rw [h]; exact E.val j d' z
  · rcases key z with ⟨rfl, e, h⟩ | ⟨hj, z, h⟩
    · cases e
      exact ⟨p, o, h, if_pos rfl, h1, h2, h3, r⟩
    · rw [h]
      obtain ⟨q, u, g1, g2, g3⟩ := E.own j d' z
      exact ⟨q, u, g1, by rw [if_neg hj]; exact g2, g3⟩
  · intro a ha hb
    rcases key z1 with ⟨e1, e, _⟩ | ⟨hj, y1, _⟩
    · rcases key z2 with ⟨e2, e', _⟩ | ⟨hj2, y2, _⟩
      · exact absurd (e1.trans e2.symm) ne
      · simp only [e1, if_true] at ha
        simp only [hj2, if_false] at hb
        have : a = p := by simpa using ha
        subst this
        exact no j2 d2 y2 hb
    · rcases key z2 with ⟨e2, e', _⟩ | ⟨hj2, y2, _⟩
      · simp only [e2, if_true] at hb
        simp only [hj, if_false] at ha
        have : a = p := by simpa using hb
        subst this
        exact no j d1 y1 ha
      · simp only [hj, if_false] at ha
        simp only [hj2, if_false] at hb
        exact E.dis j j2 d1 d2 ne y1 y2 a ha hb
  · obtain ⟨g1, g2, g3⟩ := E.held a u e
    refine ⟨g1, g2, fun j d' z hm => ?_⟩
    rcases key z with ⟨e1, e', _⟩ | ⟨hj, z, _⟩
    · simp only [e1, if_true] at hm
      have : a = p := by simpa using hm
      rw [this, hB] at e
      cases e
    · simp only [hj, if_false] at hm
      exact g3 j d' z hm
/-- a value into a slot -/
theorem Er.put {G H : Hp} {σ : L2.St} {ρ : En} {O : Nat → List Addr} (E : Er F G H σ ρ O) (i : Nat) {v : V} {d : D} {fr : Bool} (r : Rv F G H ρ O fr v d) : ∃ O', Er F G H (σ.set i (some v)) (ρ.set i (slotOf fr d)) O' := by
  rcases r with ⟨p, o, hf, rfl, h1, h2, h3, hB, h4, h5⟩ | ⟨hm, h⟩
  · subst hf
    unfold slotOf
    rw [if_pos ⟨rfl, h5.mut⟩]
    exact ⟨_, E.setOwn i h1 h2 h3 hB h4 h5⟩
  · have : slotOf fr d = .val d := by
      unfold slotOf
      rw [if_neg]
      rintro ⟨a, b⟩
      rw [hm a] at b
      cases b
    rw [this]
    exact ⟨O, E.set i h⟩
theorem s_asg {i : Nat} {x : Str} {m : M D} {fr : Bool} {pos' : Pos} (hN : X.N.Nodup) (hi : X.N[i]? = some x) (hx : Loc X.env.scope x) (h : PE X e (rdE F m fr)) (hs : swapsWith e (some (.Name x pos')) pos.line X.env = pure false) (hf : X.fn x = true ∨ X.env.scope.names.lookup x = some .local) :
    PS X (.Assign [.Name x pos'] e pos) (rdS F (asgS i m fr)) := by
  refine psI (ps_set hN hi hx h hs hf) fun D σ H ⟨G, ρ, O, E, q⟩ => ?_
  refine rdE_stmt E q fun v d ρ1 G1 H1 O1 E1 s1 r1 q1 => ?_
  obtain ⟨O', E'⟩ := E1.put i r1
  exact q1 _ G1 H1 O' E' srfl
/-- a, b = e, e a tuple that is there -/
def untS (t : Tg) (m : M D) : S := fun ρ => (m ρ).bind fun d ρ' => match bindT t d ρ' with
  | some ρ2 => .ok .nx ρ2
  | none => .bad
theorem s_unt {t : Tg} {m : M D} {fr : Bool} (hK : X.K = F.K) (hg : PG X tg (gOf X.K t)) (h : PE X e (rdE F m fr)) (hs : swapsWithSole [tg] e pos.line X.env = pure false) (hw : swappedStores [tg] e X.env = pure none) (hp : tgPlain tg = true) : PS X (.Assign [tg] e pos) (rdS F (untS t m)) := by
  refine psI (ps_asg h hg hs hw (by rw [asg_each hp]; rfl)) fun D σ H ⟨G, ρ, O, E, q⟩ => ?_
  show rdE F m fr σ H fun x H1 => gOf X.K t x σ H1 D.nx
  refine rdE_stmt E q fun v d ρ1 G1 H1 O1 E1 s1 r1 q1 => ?_
  obtain ⟨G2, s2, E2, r2⟩ := E1.hold r1
  rw [hK]
  cases e1 : bindT t d ρ1 with
  | none => rw [e1] at q1; exact q1.elim
  | some ρ2 =>
    rw [e1] at q1
    exact bind_ok t E2 r2 e1 fun σ' E' _ => q1 σ' G2 H1 O1 E' s2
end
end Dv
namespace Dv
open PySem L2 PyProof.Rows
section
variable {F : Fx} {T : Tab} {N : List Str} {sc : Scope} {k : Nat} {X : Cx} {e a b tg : Expr} {pos : Pos}
/-! ### for -/
def forL (t : Tg) (s : S) : List D → S
  | [], ρ => .ok .nx ρ
  | d :: ds, ρ => match bindT t d ρ with
    | none => .bad
    | some ρ1 => (match s ρ1 with
      | .ok .nx ρ2 => forL t s ds ρ2
      | .ok .ct ρ2 => forL t s ds ρ2
      | .ok .bk ρ2 => .ok .nx ρ2
      | .ok (.ret d) ρ2 => .ok (.ret d) ρ2
      | .exc x ρ2 => .exc x ρ2
      | .bad => .bad)
def forS (mi : M (List D)) (t : Tg) (s : S) : S := fun ρ => (mi ρ).bind fun ds ρ1 => forL t s ds ρ1
theorem Er.item {G H H' : Hp} {σ : L2.St} {ρ : En} {O : Nat → List Addr} {G1 : Hp} {x : V} {d : D} (E : Er F G H σ ρ O) (s : Same G1 G) (hy : (H' = H ∧ Rp F.K G1 x d) ∨ ∃ p o, H p = none ∧ H' = upd H p o ∧ Rp F.K (upd G1 p o) x d) :
    ∃ G3, Same G G3 ∧ Er F G3 H' σ ρ O ∧ Rp F.K G3 x d := by
  rcases hy with ⟨rfl, r⟩ | ⟨p, o, hp, rfl, r⟩
  · exact ⟨G, srfl, E, r.up s⟩
  · have gp := E.gnone hp
    refine ⟨upd G p o, same_new gp, E.froz hp, r.up fun a u e => ?_⟩
    by_cases ha : a = p
    · subst ha; rw [upd_same] at e ⊢; exact e
    · rw [upd_ne ha] at e ⊢; exact s a u e
theorem for_rd {mi : M (List D)} {t : Tg} {s : S} {D0 : Ends} {σ : L2.St} {H : Hp} (q : rdS F (forS mi t s) D0 σ H) : tFor (rdI F mi) (gOf F.K t) (rdS F s) D0 σ H := by
  obtain ⟨G, ρ, O, E, q⟩ := q
  refine ⟨G, ρ, O, E, ?_⟩
  unfold forS at q
  cases e1 : mi ρ with
  | bad => rw [e1] at q; exact q
  | exc x ρ1 => rw [e1] at q; exact q σ
  | ok ds ρ1 =>
    rw [e1] at q
    simp only [Dv.R.bind_ok] at q
    intro J G1 H1 O1 E1 s1 wJ
    replace q := Post.up q s1.g
    refine ⟨fun i m σ H => m = ds.length - i ∧ i ≤ ds.length ∧ ∃ G ρ O, Er F G H σ ρ O ∧ Same G1 G ∧ Post F D0 G (forL t s (ds.drop i) ρ), ⟨ds.length, by simp, Nat.zero_le _, G1, ρ1, O1, E1, srfl, by rw [List.drop_zero]; exact q⟩, ?_⟩
    rintro i m σ2 H2 ⟨rfl, hi, G2, ρ2, O2, E2, s2, q2⟩
    have sh : Same G1 H2 := s2.trans E2.gh
    by_cases hlt : i < ds.length
    · refine .inr ⟨wJ.goes i H2 hlt sh, fun σ' H' => ∃ G ρ O, Er F G H' σ' ρ O ∧ Same G1 G ∧ Post F D0 G (forL t s (ds.drop (i + 1)) ρ), fun σ' H' w => ⟨ds.length - (i + 1), by omega, rfl, hlt, w⟩, fun x H' y => ?_⟩
      obtain ⟨d, hd, hy⟩ := wJ.yields i H2 x H' hlt sh y
      obtain ⟨G3, s3, E3, r3⟩ := E2.item s2 hy
      have edrop : ds.drop i = d :: ds.drop (i + 1) := by
        rw [List.drop_eq_getElem_cons hlt]
        congr 1
        rw [List.getElem?_eq_getElem hlt] at hd
        exact Option.some.inj hd
      rw [edrop] at q2
      simp only [forL] at q2
      cases e3 : bindT t d ρ2 with
      | none => rw [e3] at q2; exact q2.elim
      | some ρ3 =>
        rw [e3] at q2
        simp only at q2
        refine bind_ok t E3 r3 e3 fun σ' E4 _ => ⟨G3, ρ3, O2, E4, ?_⟩
        replace q2 := Post.up q2 s3
        cases e4 : s ρ3 with
        | bad => rw [e4] at q2; exact q2
        | exc x ρ4 => rw [e4] at q2; exact q2
        | ok f ρ4 =>
          rw [e4] at q2
          cases f with
          | nx => exact fun σ5 G5 H5 O5 E5 s5 => ⟨G5, ρ4, O5, E5, (s2.trans s3).trans s5, Post.up q2 s5⟩
          | ct => exact fun σ5 G5 H5 O5 E5 s5 => ⟨G5, ρ4, O5, E5, (s2.trans s3).trans s5, Post.up q2 s5⟩
          | bk => exact q2
          | ret d => exact q2
    · have ei : i = ds.length := by omega
      subst ei
      rw [List.drop_length] at q2
      exact .inl ⟨wJ.stops H2 sh, q2 σ2 G2 H2 O2 E2 srfl⟩
theorem s_for {iter : Expr} {body : List Stmt} {mi : M (List D)} {t : Tg} {s : S} (hK : X.K = F.K) (hp : PassesOwn (model X.prog X.w) X.A X.env X.xe) (hc : X.calm = true) (hi : PI X tg iter (rdI F mi)) (hg : PG X tg (gOf X.K t)) (hb : PSs X body (rdS F s)) (pi : plainE iter = true) :
    PS X (.For tg iter body [] pos) (rdS F (forS mi t s)) := by
  refine psI (ps_for hp hc hi hg hb ?_) fun D σ H q => ?_
  · intro x
    cases iter <;> first | rfl | cases pi
  · rw [hK]
    exact for_rd q
/-! ### while -/
def whileL (c : M Bool) (s : S) : Nat → S
  | 0, _ => .bad
  | n + 1, ρ => (c ρ).bind fun b ρ1 => if b = true then (match s ρ1 with
      | .ok .nx ρ2 => whileL c s n ρ2
      | .ok .ct ρ2 => whileL c s n ρ2
      | .ok .bk ρ2 => .ok .nx ρ2
      | .ok (.ret d) ρ2 => .ok (.ret d) ρ2
      | .exc x ρ2 => .exc x ρ2
      | .bad => .bad) else .ok .nx ρ1
/-- as many turns as one likes -/
def whileS (c : M Bool) (s : S) : S := whileL c s 1000000000
theorem while_rd {c : M Bool} {s : S} {n : Nat} {D0 : Ends} {σ : L2.St} {H : Hp} (q : rdS F (whileL c s n) D0 σ H) : tWhile (rdT F c) (rdS F s) D0 σ H := by
  refine ⟨fun m σ H => rdS F (whileL c s m) D0 σ H, ⟨n, q⟩, ?_⟩
  rintro m σ H ⟨G, ρ, O, E, q⟩
  cases m with
  | zero => exact q.elim
  | succ m =>
    simp only [whileL] at q
    refine rdT_stmt (f := fun b ρ1 => if b = true then (match s ρ1 with
      | .ok .nx ρ2 => whileL c s m ρ2
      | .ok .ct ρ2 => whileL c s m ρ2
      | .ok .bk ρ2 => .ok .nx ρ2
      | .ok (.ret d) ρ2 => .ok (.ret d) ρ2
      | .exc x ρ2 => .exc x ρ2
      | .bad => .bad) else .ok .nx ρ1) E q fun b ρ1 G1 H1 O1 E1 s1 q1 => ?_
    cases b with
    | false => exact q1 σ G1 H1 O1 E1 srfl
    | true =>
      simp only [if_true] at q1 ⊢
      refine ⟨fun σ' H' => rdS F (whileL c s m) D0 σ' H', fun σ' H' w => ⟨m, Nat.lt_succ_self m, w⟩, G1, ρ1, O1, E1, ?_⟩
      cases e4 : s ρ1 with
      | bad => rw [e4] at q1; exact q1
      | exc x ρ4 => rw [e4] at q1; exact q1
      | ok f ρ4 =>
        rw [e4] at q1
        cases f with
        | nx => exact fun σ5 G5 H5 O5 E5 s5 => ⟨G5, ρ4, O5, E5, Post.up q1 s5⟩
        | ct => exact fun σ5 G5 H5 O5 E5 s5 => ⟨G5, ρ4, O5, E5, Post.up q1 s5⟩
        | bk => exact q1
        | ret d => exact q1
theorem s_while {c : Expr} {body : List Stmt} {m : M Bool} {s : S} (hp : PassesOwn (model X.prog X.w) X.A X.env X.xe) (hc : PT X c (rdT F m)) (hb : PSs X body (rdS F s)) : PS X (.While c body [] pos) (rdS F (whileS m s)) :=
  psI (ps_while hp hc hb) fun _ _ _ q => while_rd q
/-! ### a slot's own list changes -/
theorem Er.change {G H : Hp} {σ : L2.St} {ρ : En} {O : Nat → List Addr} (E : Er F G H σ ρ O) {i : Nat} {p : Addr} {d d' : D} {o' : HO} (q : ρ[i]? = some (.own d)) (hO : O i = [p]) (hs : σ[i]? = some (some (.ref p))) (hG : G p = none) (h0 : F.H0 p = none) (r : Own F.K G p o' d') :
    Er F G (upd H p o') σ (ρ.set i (.own d')) O := by
  have hi : i < ρ.length := by
    rcases Nat.lt_or_ge i ρ.length with h | h
    · exact h
    · rw [List.getElem?_eq_none h] at q; cases q
  have key : ∀ {j : Nat} {s : Sl}, (ρ.set i (.own d'))[j]? = some s → (j = i ∧ s = .own d') ∨ (j ≠ i ∧ ρ[j]? = some s) := fun {j s} z => by
    by_cases hj : j = i
    · subst hj
      rw [List.getElem?_set_self hi] at z
      cases z
      exact .inl ⟨rfl, rfl⟩
    · rw [List.getElem?_set_ne (Ne.symm hj)] at z
      exact .inr ⟨hj, z⟩
  have old : ∀ {j : Nat} {d2 : D}, (ρ.set i (.own d'))[j]? = some (Sl.own d2) → ∃ d3, ρ[j]? = some (Sl.own d3) := fun {j d2} z => by
    rcases key z with ⟨e, _⟩ | ⟨_, z⟩
    · rw [e]; exact ⟨d, q⟩
    · exact ⟨d2, z⟩
  refine ⟨by rw [List.length_set]; exact E.len, E.g0, fun a o e => ?_, fun a o e => ?_, E.new, fun j d2 z => ?_, fun j d2 z => ?_, fun j j2 d1 d2 ne z1 z2 => ?_, fun a u e => ?_⟩
  · have : a ≠ p := fun z => by rw [z, h0] at e; cases e
    rw [upd_ne this]; exact E.h0 a o e
  · have : a ≠ p := fun z => by rw [z, hG] at e; cases e
    rw [upd_ne this]; exact E.gh a o e
  · rcases key z with ⟨_, e⟩ | ⟨_, z⟩
    · cases e
    · exact E.val j d2 z
  · rcases key z with ⟨e, e2⟩ | ⟨hj, z⟩
    · cases e2
      rw [e]
      exact ⟨p, o', hs, hO, upd_same, hG, h0, r⟩
    · obtain ⟨p2, o2, g1, g2, g3, g4, g5, g6⟩ := E.own j d2 z
      have : p2 ≠ p := fun z2 => E.dis i j d d2 (Ne.symm hj) q z p (by rw [hO]; simp) (by rw [g2, z2]; simp)
      exact ⟨p2, o2, g1, g2, by rw [upd_ne this]; exact g3, g4, g5, g6⟩
  · obtain ⟨d3, z1⟩ := old z1
    obtain ⟨d4, z2⟩ := old z2
    exact E.dis j j2 d3 d4 ne z1 z2
  · obtain ⟨g1, g2, g3⟩ := E.held a u e
    have : a ≠ p := fun z => g3 i d q (by rw [hO, z]; simp)
    refine ⟨by rw [upd_ne this]; exact g1, g2, fun j d2 z => ?_⟩
    obtain ⟨d3, z⟩ := old z
    exact g3 j d3 z
/-- x.append(e) -/
def appS (i : Nat) (m : M D) : S := fun ρ => match ρ[i]? with
  | some (.own (.lst _)) => (m ρ).bind fun d ρ' => (match ρ'[i]? with
    | some (.own (.lst ds)) => if ds.length ≤ 16000000 then .ok .nx (ρ'.set i (.own (.lst (ds ++ [d])))) else .bad
    | _ => .bad)
  | _ => .bad
theorem s_app {o : Expr} {i : Nat} {m : M D} {fr : Bool} {apos cpos spos : Pos} (hK : X.K = F.K) (ho : PE X o (tVar i)) (po : plainBase o = true) (h : PE X e (rdE F m fr)) (pe : plainE e = true) (hline : (apos.endLine == cpos.line) = true) :
    PS X (.Expr (.Call (.Attribute o "append" apos) [e] [] cpos) spos) (rdS F (appS i m)) := by
  have pa : PA X [e] (tCons (rdE F m fr) tNil) := pa_cons h pa_nil (star_of pe _ _)
  have hstar : starEach [e] X.env = (false, eval e X.env) :: starEach [] X.env := star_of pe _ _
  refine psI (ps_expr (pe_bm PySem.F.plainAttrs_list PySem.F.slot_list_append PySem.F.type_list_append mt_append ho pa (base_of po) ?_ hline hstar rfl) rfl) fun D σ H ⟨G, ρ, O, E, q⟩ => ?_
  · rw [hstar]; rfl
  · unfold appS at q
    split at q
    rotate_left
    · exact q.elim
    rename_i ds0 hi
    obtain ⟨p, o1, h1, h2, h3, h4, h5, h6⟩ := E.own i _ hi
    cases h6
    rename_i vs0 hr0
    refine ⟨.ref p, h1, .inl ⟨rfl, _, .inl (.inl h3)⟩, ?_⟩
    show rdE F m fr σ H fun y H2 => rAppend (.ref p) [y] H2 fun _ H1 => D.nx σ H1
    refine rdE_stmt E q fun v d ρ1 G1 H1 O1 E1 s1 r1 q1 => ?_
    obtain ⟨G2, s2, E2, r2⟩ := E1.hold r1
    split at q1
    rotate_left
    · exact q1.elim
    rename_i ds hi1
    split at q1
    rotate_left
    · exact q1.elim
    rename_i hz
    obtain ⟨p', o2, g1, g2, g3, g4, g5, g6⟩ := E2.own i _ hi1
    rw [h1] at g1
    cases g1
    cases g6
    rename_i vs hr
    refine ⟨p, vs, v, rfl, rfl, g3, by rw [hr.length, sizeLine_eq]; omega, ?_⟩
    exact q1 σ G2 _ O1 (E2.change hi1 g2 h1 g4 g5 (.lst (hr.append (.cons r2 .nil)))) s2
end
end Dv
namespace Dv
open PySem L2 PyProof.Rows
section
variable {F : Fx} {T : Tab} {N : List Str} {sc : Scope} {k : Nat} {X : Cx} {e a b tg : Expr} {pos : Pos}
/-! ### several names at once -/
structure PIt where
  i : Nat
  m : M D
  fr : Bool
def parL : List PIt → En → R Unit
  | [], ρ => .ok () ρ
  | q :: r, ρ => (q.m ρ).bind fun d ρ1 => match parL r ρ1 with
    | .ok _ ρ2 => .ok () (ρ2.set q.i (slotOf q.fr d))
    | .exc x ρ2 => .exc x ρ2
    | .bad => .bad
def setR : List Nat → List V → L2.St → L2.St
  | i :: is, v :: vs, σ => (setR is vs σ).set i (some v)
  | _, _, σ => σ
abbrev Fx.asd (F : Fx) (B : Hp) : Fx := { F with B := B }
def tAny (F : Fx) (q : PIt) : TE := fun σ H Q => ∃ B, rdE (F.asd B) q.m q.fr σ H Q
theorem par_rd : ∀ (items : List PIt) (B : Hp) {G H : Hp} {σ : L2.St} {ρ : En} {O : Nat → List Addr} {Q : List V → Hp → Prop}, Er (F.asd B) G H σ ρ O → (match parL items ρ with
    | .ok _ ρ' => ∀ vs G' H' O', Er (F.asd B) G' H' (setR (items.map (·.i)) vs σ) ρ' O' → vs.length = items.length → Same G G' → Q vs H'
    | .exc x ρ' => Xc (F.asd B) σ x ρ' G
    | .bad => False) → tList (items.map (tAny F)) σ H Q
  | [], B, G, H, σ, ρ, O, Q, E, h => h [] G H O E rfl srfl
  | q :: r, B, G, H, σ, ρ, O, Q, E, h => by
    refine ⟨B, G, ρ, O, E, ?_⟩
    simp only [parL] at h
    cases e1 : q.m ρ with
    | bad => rw [e1] at h; exact h
    | exc x ρ1 => rw [e1] at h; exact h
    | ok d ρ1 =>
      rw [e1] at h
      intro v G1 H1 O1 E1 s1 r1
      simp only [Dv.R.bind_ok] at h
      -- what was just made is held aside
      obtain ⟨B1, hB, E1', pd⟩ : ∃ B1 : Hp, (∀ a o, B a = some o → B1 a = some o) ∧ Er (F.asd B1) G1 H1 σ ρ1 O1 ∧
          ((∃ p o, q.fr = true ∧ v = .ref p ∧ B1 p = some o ∧ B p = none ∧ F.H0 p = none ∧ Own F.K G1 p o d) ∨ ((q.fr = true → isMut d = false) ∧ Rp F.K G1 v d)) := by
        rcases r1 with ⟨p, o, hf, rfl, h1, h2, h3, h4, h5, h6⟩ | ⟨hm, hr⟩
        · refine ⟨upd B p o, fun a u z => ?_, E1.aside fun a u z => ?_, .inl ⟨p, o, hf, rfl, upd_same, h4, h3, h6⟩⟩
          · rw [upd_ne (ne_of_none z h4)]; exact z
          · by_cases ha : a = p
            · subst ha
              rw [upd_same] at z
              cases z
              exact ⟨h1, h2, h5⟩
            · rw [upd_ne ha] at z
              exact E1.held a u z
        · exact ⟨B, fun _ _ z => z, E1, .inr ⟨hm, hr⟩⟩
      refine par_rd r B1 (Q := fun vs H' => Q (v :: vs) H') E1' ?_
      cases e2 : parL r ρ1 with
      | bad => rw [e2] at h; exact h
      | exc x ρ2 =>
        rw [e2] at h
        exact fun c dx G' H' O' E' s xr => h c dx G' H' O' (E'.aside fun a u z => E'.held a u (hB a u z)) (s1.g.trans s) xr
      | ok _ ρ2 =>
        rw [e2] at h
        intro vs G2 H2 O2 E2 hl s2
        have E3 : Er (F.asd B) G2 H2 (setR (r.map (·.i)) vs σ) ρ2 O2 := E2.aside fun a u z => E2.held a u (hB a u z)
        have rv : Rv (F.asd B) G2 H2 ρ2 O2 q.fr v d := by
          rcases pd with ⟨p, o, hf, rfl, h1, h2, h3, h4⟩ | ⟨hm, hr⟩
          · obtain ⟨g1, g2, g3⟩ := E2.held p o h1
            exact .inl ⟨p, o, hf, rfl, g1, g2, h3, h2, g3, h4.up s2⟩
          · exact .inr ⟨hm, hr.up s2⟩
        obtain ⟨O3, E4⟩ := E3.put q.i rv
        exact h (v :: vs) G2 H2 O3 E4 (by rw [List.length_cons, List.length_cons, hl]) (s1.g.trans s2)
def parS (items : List PIt) : S := fun ρ => match parL items ρ with
  | .ok _ ρ' => .ok .nx ρ'
  | .exc x ρ' => .exc x ρ'
  | .bad => .bad
theorem s_par2 {i j : Nat} {x y : Str} {m n : M D} {fr fr' : Bool} {px py pt pt2 : Pos} {kt k2 : Nat} (o : Xo F T N sc k X) (hi : X.N[i]? = some x) (hj : X.N[j]? = some y) (hij : i ≠ j)
    (hx : X.env.scope.names.lookup x = some .local) (hy : X.env.scope.names.lookup y = some .local) (ha : ∀ B, PE X a (rdE (F.asd B) m fr)) (hb : ∀ B, PE X b (rdE (F.asd B) n fr')) (pa : plainE a = true) (pb : plainE b = true)
    (hw : swappedStores [.Tuple [.Name x px, .Name y py] kt pt] (.Tuple [a, b] k2 pt2) X.env = pure (some [x, y])) :
    PS X (.Assign [.Tuple [.Name x px, .Name y py] kt pt] (.Tuple [a, b] k2 pt2) pos) (rdS F (parS [⟨i, m, fr⟩, ⟨j, n, fr'⟩])) := by
  have nd : X.N.Nodup := by rw [o.hN]; exact o.nd
  have p1 : PE X a (tAny F ⟨i, m, fr⟩) := ⟨fun pins s σ H Q I ⟨B, q⟩ => (ha B).run pins s σ H Q I q⟩
  have p2 : PE X b (tAny F ⟨j, n, fr'⟩) := ⟨fun pins s σ H Q I ⟨B, q⟩ => (hb B).run pins s σ H Q I q⟩
  have hpa : PA X [a, b] (tList [tAny F ⟨i, m, fr⟩, tAny F ⟨j, n, fr'⟩]) := pa_cons p1 (pa_cons p2 pa_nil (star_of pb _ _)) (star_of pa _ _)
  refine psI (ps_par o.calm nd hi hj hij hx hy hpa hw) fun D σ H ⟨G, ρ, O, E, q⟩ => ?_
  refine par_rd [⟨i, m, fr⟩, ⟨j, n, fr'⟩] F.B (Q := fun vs H1 => ∃ v w, vs = [v, w] ∧ D.nx ((σ.set i (some v)).set j (some w)) H1) E ?_
  unfold parS at q
  cases e1 : parL [⟨i, m, fr⟩, ⟨j, n, fr'⟩] ρ with
  | bad => rw [e1] at q; exact q
  | exc x ρ1 => rw [e1] at q; exact q σ
  | ok _ ρ1 =>
    rw [e1] at q
    intro vs G1 H1 O1 E1 hl s1
    match vs, hl, E1 with
    | [v, w], _, E1 =>
      refine ⟨v, w, rfl, ?_⟩
      have E1 : Er F G1 H1 ((σ.set j (some w)).set i (some v)) ρ1 O1 := E1
      rw [List.set_comm _ _ (Ne.symm hij)] at E1
      exact q _ G1 H1 O1 E1 s1
theorem s_par3 {i j l : Nat} {x y z : Str} {c : Expr} {m n n2 : M D} {fr fr' fr2 : Bool} {px py pz pt pt2 : Pos} {kt k2 : Nat} (o : Xo F T N sc k X) (hi : X.N[i]? = some x) (hj : X.N[j]? = some y) (hl : X.N[l]? = some z) (hij : i ≠ j) (hil : i ≠ l) (hjl : j ≠ l)
    (hx : X.env.scope.names.lookup x = some .local) (hy : X.env.scope.names.lookup y = some .local) (hz : X.env.scope.names.lookup z = some .local) (ha : ∀ B, PE X a (rdE (F.asd B) m fr)) (hb : ∀ B, PE X b (rdE (F.asd B) n fr')) (hc : ∀ B, PE X c (rdE (F.asd B) n2 fr2))
    (pa : plainE a = true) (pb : plainE b = true) (pc : plainE c = true)
    (hw : swappedStores [.Tuple [.Name x px, .Name y py, .Name z pz] kt pt] (.Tuple [a, b, c] k2 pt2) X.env = pure (some [x, y, z])) :
    PS X (.Assign [.Tuple [.Name x px, .Name y py, .Name z pz] kt pt] (.Tuple [a, b, c] k2 pt2) pos) (rdS F (parS [⟨i, m, fr⟩, ⟨j, n, fr'⟩, ⟨l, n2, fr2⟩])) := by
  have nd : X.N.Nodup := by rw [o.hN]; exact o.nd
  have p1 : PE X a (tAny F ⟨i, m, fr⟩) := ⟨fun pins s σ H Q I ⟨B, q⟩ => (ha B).run pins s σ H Q I q⟩
  have p2 : PE X b (tAny F ⟨j, n, fr'⟩) := ⟨fun pins s σ H Q I ⟨B, q⟩ => (hb B).run pins s σ H Q I q⟩
  have p3 : PE X c (tAny F ⟨l, n2, fr2⟩) := ⟨fun pins s σ H Q I ⟨B, q⟩ => (hc B).run pins s σ H Q I q⟩
  have hpa : PA X [a, b, c] (tList [tAny F ⟨i, m, fr⟩, tAny F ⟨j, n, fr'⟩, tAny F ⟨l, n2, fr2⟩]) := pa_cons p1 (pa_cons p2 (pa_cons p3 pa_nil (star_of pc _ _)) (star_of pb _ _)) (star_of pa _ _)
  refine psI (L2.ps_par3 o.calm nd hi hj hl hij hil hjl hx hy hz hpa hw) fun D σ H ⟨G, ρ, O, E, q⟩ => ?_
  refine par_rd [⟨i, m, fr⟩, ⟨j, n, fr'⟩, ⟨l, n2, fr2⟩] F.B (Q := fun vs H1 => ∃ u v w, vs = [u, v, w] ∧ D.nx (((σ.set i (some u)).set j (some v)).set l (some w)) H1) E ?_
  unfold parS at q
  cases e1 : parL [⟨i, m, fr⟩, ⟨j, n, fr'⟩, ⟨l, n2, fr2⟩] ρ with
  | bad => rw [e1] at q; exact q
  | exc x ρ1 => rw [e1] at q; exact q σ
  | ok _ ρ1 =>
    rw [e1] at q
    intro vs G1 H1 O1 E1 hl s1
    match vs, hl, E1 with
    | [u, v, w], _, E1 =>
      refine ⟨u, v, w, rfl, ?_⟩
      have E1 : Er F G1 H1 (((σ.set l (some w)).set j (some v)).set i (some u)) ρ1 O1 := E1
      rw [List.set_comm _ _ (Ne.symm hij), List.set_comm _ _ (Ne.symm hil), List.set_comm _ _ (Ne.symm hjl)] at E1
      exact q _ G1 H1 O1 E1 s1
end
end Dv
namespace Dv
open PySem L2 PyProof.Rows
section
variable {F : Fx} {T : Tab} {N : List Str} {sc : Scope} {k : Nat} {X : Cx} {e a b tg : Expr} {pos : Pos}
/-! ### what is no exchange of values -/
def isComp : Expr → Bool
  | .ListComp _ _ _ _ => true
  | .SetComp _ _ _ _ => true
  | .DictComp _ _ _ _ _ => true
  | _ => false
theorem swap_nc {t : Option Expr} {l : Nat} {env : PySem.Env} (h : isComp e = false) : swapsWith e t l env = pure false := by
  cases e <;> first | rfl | cases h
theorem swap_sub {o ix : Expr} {p : Pos} {l : Nat} {env : PySem.Env} : swapsWithSole [.Subscript o ix p] e l env = pure false := by
  cases e <;> rfl
theorem swap_tup {es : List Expr} {x1 : Nat} {p : Pos} {l : Nat} {env : PySem.Env} : swapsWithSole [.Tuple es x1 p] e l env = pure false := by
  cases e <;> rfl
theorem stores_sub {o ix : Expr} {p : Pos} {env : PySem.Env} : swappedStores [.Subscript o ix p] e env = pure none := by
  cases e <;> rfl
def isTup : Expr → Bool
  | .Tuple _ _ _ => true
  | _ => false
theorem stores_nt {t : Expr} {env : PySem.Env} (h : isTup e = false) : swappedStores [t] e env = pure none := by
  cases t <;> cases e <;> first | rfl | cases h
/-! ### x[i] = e -/
def setS (j : Nat) (oi : Opd) (m : M D) : S := fun ρ => (m ρ).bind fun d ρ1 => match slD ρ1[j]? with
  | none => .bad
  | some _ => (evO [oi] ρ1).bind fun es ρ2 => (match es, ρ2[j]? with
    | [.int n], some (.own (.lst ds)) => (match ixI ds.length n with
      | some q => .ok .nx (ρ2.set j (.own (.lst (ds.set q d))))
      | none => .bad)
    | _, _ => .bad)
theorem ops_stmt {es : List Expr} {os : List Opd} {ts : List TE} {f : List D → S} {D0 : Ends} {σ : L2.St} {H : Hp} {Q : List V → Hp → Prop} {G : Hp} {ρ : En} {O : Nat → List Addr} (h : Ops F X es os ts) (E : Er F G H σ ρ O) (q : Post F D0 G ((evO os ρ).bind f))
    (w : ∀ vs ds ρ1 G1 H1 O1, Er F G1 H1 σ ρ1 O1 → Same G G1 → Avs F.K G1 σ ρ1 os vs ds → Post F D0 G1 (f ds ρ1) → Q vs H1) : tList ts σ H Q := by
  refine h.run σ H _ ⟨G, ρ, O, E, ?_⟩
  cases e1 : evO os ρ with
  | bad => rw [e1] at q; exact q
  | exc x ρ1 => rw [e1] at q; exact q σ
  | ok ds ρ1 =>
    rw [e1] at q
    exact fun vs G1 H1 O1 E1 s1 a1 => w vs ds ρ1 G1 H1 O1 E1 s1.g a1 (Post.up q s1.g)
theorem s_set {o ix : Expr} {j : Nat} {oi : Opd} {ti : TE} {m : M D} {fr : Bool} {p2 : Pos} (ho : PE X o (tVar j)) (hix : Op1 F X ix oi ti) (h : PE X e (rdE F m fr)) (px : plainE ix = true) :
    PS X (.Assign [.Subscript o ix p2] e pos) (rdS F (setS j oi m)) := by
  refine psI (ps_asg h (pg_sub ho hix.pe set_list (fun v => by cases ix <;> first | rfl | cases px)) swap_sub stores_sub rfl) fun D σ H ⟨G, ρ, O, E, q⟩ => ?_
  show rdE F m fr σ H fun x H1 => gSub (tVar j) ti rSetL x σ H1 D.nx
  refine rdE_stmt E q fun v d ρ1 G1 H1 O1 E1 s1 r1 q1 => ?_
  obtain ⟨G2, s2, E2, r2⟩ := E1.hold r1
  cases e0 : slD ρ1[j]? with
  | none => rw [e0] at q1; exact q1.elim
  | some d0 =>
    rw [e0] at q1
    simp only at q1
    obtain ⟨u, hu, _⟩ := E2.slot e0
    refine ⟨u, hu, ?_⟩
    show tList [ti] σ H1 (fun vs H2 => match vs with | [i] => rSetL u i v H2 fun H3 => D.nx σ H3 | _ => False)
    refine ops_stmt (f := fun es ρ2 => (match es, ρ2[j]? with
    | [.int n], some (.own (.lst ds)) => (match ixI ds.length n with
      | some q => .ok .nx (ρ2.set j (.own (.lst (ds.set q d))))
      | none => .bad)
    | _, _ => .bad)) (.cons hix .nil) E2 (Post.up q1 s2) fun vs ds ρ2 G3 H3 O3 E3 s3 a3 q3 => ?_
    have va := a3.vw E3
    cases va with
    | nil => exact q3.elim
    | cons v1 t =>
      cases t with
      | cons _ _ => simp only at q3; exact q3.elim
      | nil =>
        rename_i i di
        cases di <;> try exact q3.elim
        rename_i n
        cases e5 : ρ2[j]? with
        | none => rw [e5] at q3; exact q3.elim
        | some s =>
          rw [e5] at q3
          cases s <;> try exact q3.elim
          rename_i dd
          cases dd <;> try exact q3.elim
          rename_i ds
          simp only at q3
          cases e6 : ixI ds.length n with
          | none => rw [e6] at q3; exact q3.elim
          | some q =>
            rw [e6] at q3
            obtain ⟨p, o2, g1, g2, g3, g4, g5, g6⟩ := E3.own j _ e5
            rw [hu] at g1
            cases g1
            cases g6
            rename_i vs hr
            refine ⟨p, vs, n, q, rfl, v1.int', g3, by rw [ixN_eq, hr.length]; exact e6, ?_⟩
            exact q3 σ G3 _ O3 (E3.change e5 g2 hu g4 g5 (.lst (RpAll.set (r2.up s3) q hr))) srfl
/-! ### x op= e -/
def augD : Operator → Option (D → D → Option D)
  | .Add => some fun a b => match a, b with
    | .int i, .int j => some (.int (i + j))
    | .str x, .str y => if x.length + y.length ≤ sizeLine then some (.str (x ++ y)) else none
    | _, _ => none
  | .Sub => some subD
  | .Mult => some fun a b => match a, b with
    | .int i, .int j => if CMul i j then some (.int (i * j)) else none
    | _, _ => none
  | .BitXor => some xorD
  | _ => none
def augS (i : Nat) (f : D → D → Option D) (o : Opd) : S := fun ρ => match ρ[i]? with
  | some (.val d0) => (evO [o] ρ).bind fun ds ρ1 => (match ds with
    | [d] => (match f d0 d with
      | some r => if isMut r then .bad else .ok .nx (ρ1.set i (.val r))
      | none => .bad)
    | _ => .bad)
  | _ => .bad
theorem aug_ok {op : Operator} {f : D → D → Option D} (h : augD op = some f) : ∃ r, OpR X (inplaceOp op) r ∧ Op2 F f r := by
  cases op <;> simp only [augD, Option.some.injEq, reduceCtorEq] at h <;> subst h
  · refine ⟨_, iop_add.or iop_add_str, ?_⟩
    intro G H σ ρ O x y a b d Q E va vb e w
    dsimp only at e
    split at e
    · cases e
      exact .inl ⟨_, _, va.int', vb.int', w _ _ _ _ E strf rv_int⟩
    · split at e
      · rename_i hz
        cases e
        exact .inr ⟨_, _, va.str', vb.str', hz, w _ _ _ _ E strf rv_str⟩
      · cases e
    · cases e
  · refine ⟨_, iop_sub, ?_⟩
    intro G H σ ρ O x y a b d Q E va vb e w
    unfold subD at e
    split at e
    · cases e
      exact ⟨_, _, va.int', vb.int', w _ _ _ _ E strf rv_int⟩
    · cases e
  · refine ⟨_, iop_mul, ?_⟩
    intro G H σ ρ O x y a b d Q E va vb e w
    dsimp only at e
    split at e
    · split at e
      · rename_i hc
        cases e
        exact ⟨_, _, va.int', vb.int', hc, w _ _ _ _ E strf rv_int⟩
      · cases e
    · cases e
  · refine ⟨_, iop_xor, ?_⟩
    intro G H σ ρ O x y a b d Q E va vb e w
    unfold xorD at e
    split at e
    · cases e
      exact ⟨_, _, va.int', vb.int', w _ _ _ _ E strf rv_int⟩
    · cases e
theorem s_aug {i : Nat} {x : Str} {o : Opd} {t : TE} {op : Operator} {f : D → D → Option D} {pos' : Pos} (hN : X.N.Nodup) (hi : X.N[i]? = some x) (hx : Loc X.env.scope x) (hf : X.fn x = true ∨ X.env.scope.names.lookup x = some .local) (ho : augD op = some f) (h : Op1 F X e o t) :
    PS X (.AugAssign (.Name x pos') op e pos) (rdS F (augS i f o)) := by
  obtain ⟨r, h1, h2⟩ := aug_ok (F := F) (X := X) ho
  refine psI (ps_aug hN hi hx h.pe (ti := r) h1 hf) fun D σ H ⟨G, ρ, O, E, q⟩ => ?_
  unfold augS at q
  split at q
  · rename_i d0 e0
    obtain ⟨v, hv, r0⟩ := E.val i d0 e0
    refine ⟨v, hv, ?_⟩
    show tList [t] σ H (fun vs H1 => match vs with | [y] => r v y H1 fun z H2 => D.nx (σ.set i (some z)) H2 | _ => False)
    refine ops_stmt (f := fun ds ρ1 => (match ds with
    | [d] => (match f d0 d with
      | some r => if isMut r then .bad else .ok .nx (ρ1.set i (.val r))
      | none => .bad)
    | _ => .bad)) (.cons h .nil) E q fun vs ds ρ1 G1 H1 O1 E1 s1 a1 q1 => ?_
    have va := a1.vw E1
    cases va with
    | nil => exact q1.elim
    | cons v1 t =>
      cases t with
      | cons _ _ => simp only at q1; exact q1.elim
      | nil =>
        rename_i y d
        simp only at q1
        cases e1 : f d0 d with
        | none => rw [e1] at q1; exact q1.elim
        | some rr =>
          rw [e1] at q1
          simp only at q1
          cases em : isMut rr with
          | true => rw [em] at q1; exact q1.elim
          | false =>
            rw [em] at q1
            refine h2 G1 H1 σ ρ1 O1 v y d0 d rr _ E1 (.inl (r0.up s1)) v1 e1 fun z G2 H2 O2 E2 s2 r2 => ?_
            obtain ⟨O3, E3⟩ := E2.put i r2
            have : slotOf true rr = .val rr := by unfold slotOf; rw [em]; simp
            rw [this] at E3
            exact q1 _ G2 H2 O3 E3 s2.g
  · exact q.elim
end
end Dv
namespace Dv
open PySem L2 PyProof.Rows
section
variable {F : Fx} {T : Tab} {N : List Str} {sc : Scope} {k : Nat} {X : Cx} {e a b tg : Expr} {pos : Pos}
/-! ### x.index(e) -/
def firstB (d : PyData) : List PyData → Nat → Option Nat
  | [], _ => none
  | z :: zs, i => if PyData.eqv z d then some i else firstB d zs (i + 1)
theorem firstB_ok {d : PyData} : ∀ {zs : List PyData} {i j : Nat}, firstB d zs i = some j → i ≤ j ∧ ∃ z, zs[j - i]? = some z ∧ PyData.eqv z d = true ∧ ∀ (m : Nat) (z' : PyData), m < j - i → zs[m]? = some z' → PyData.eqv z' d = false
  | [], i, j, h => by cases h
  | z :: zs, i, j, h => by
    simp only [firstB] at h
    split at h
    · rename_i hz
      cases h
      exact ⟨Nat.le_refl _, z, by rw [Nat.sub_self]; rfl, hz, fun m z' hm => by omega⟩
    · rename_i hz
      obtain ⟨h1, z2, h2, h3, h4⟩ := firstB_ok h
      refine ⟨by omega, z2, by rw [show j - i = (j - (i + 1)) + 1 by omega]; exact h2, h3, fun m z' hm hz' => ?_⟩
      cases m with
      | zero =>
        cases hz'
        simpa using hz
      | succ m => exact h4 m z' (by omega) hz'
def indexB (ds : List D) (d : D) : Option Nat := if shaped? (.lst ds) && shaped? d then firstB (toPy d) (toPys ds) 0 else none
def idxM (i : Nat) (m : M D) : M D := fun ρ => match slD ρ[i]? with
  | some (.lst _) => (m ρ).bind fun d ρ' => (match slD ρ'[i]? with
    | some (.lst ds) => (match indexB ds d with
      | some j => .ok (.int (j : Nat)) ρ'
      | none => .bad)
    | _ => .bad)
  | _ => .bad
theorem e_index {o : Expr} {i : Nat} {m : M D} {fr : Bool} {apos cpos : Pos} (hK : X.K = F.K) (hu : X.A.units + 65 < cLine) (ho : PE X o (tVar i)) (po : plainBase o = true) (h : PE X e (rdE F m fr)) (pe : plainE e = true) (hline : (apos.endLine == cpos.line) = true) :
    PE X (.Call (.Attribute o "index" apos) [e] [] cpos) (rdE F (idxM i m) true) := by
  have pa : PA X [e] (tCons (rdE F m fr) tNil) := pa_cons h pa_nil (star_of pe _ _)
  have hstar : starEach [e] X.env = (false, eval e X.env) :: starEach [] X.env := star_of pe _ _
  refine peI (pe_bm PySem.F.plainAttrs_list PySem.F.slot_list_index PySem.F.type_list_index (mt_indexD hu) ho pa (base_of po) ?_ hline hstar rfl) fun σ H Q ⟨G, ρ, O, E, q⟩ => ?_
  · rw [hstar]; rfl
  · unfold idxM at q
    cases e0 : slD ρ[i]? with
    | none => rw [e0] at q; exact q.elim
    | some d0 =>
      rw [e0] at q
      cases d0 <;> try exact q.elim
      rename_i ds0
      obtain ⟨u, hu1, va⟩ := E.slot e0
      obtain ⟨p, vs0, rfl, h1, h2⟩ := va.lst' E.gh
      refine ⟨.ref p, hu1, .inl ⟨rfl, _, .inl (.inl h1)⟩, ?_⟩
      show rdE F m fr σ H fun y H2 => rIndexD X.K (.ref p) [y] H2 Q
      refine ⟨G, ρ, O, E, ?_⟩
      simp only at q
      cases e1 : m ρ with
      | bad => rw [e1] at q; exact q
      | exc x ρ1 => rw [e1] at q; exact q
      | ok d ρ1 =>
        rw [e1] at q
        intro v G1 H1 O1 E1 s1 r1
        simp only [R.bind_ok] at q
        cases e2 : slD ρ1[i]? with
        | none => rw [e2] at q; exact q.elim
        | some d1 =>
          rw [e2] at q
          cases d1 <;> try exact q.elim
          rename_i ds
          simp only at q
          cases e3 : indexB ds d with
          | none => rw [e3] at q; exact q.elim
          | some j =>
            rw [e3] at q
            obtain ⟨u', hu2, va'⟩ := E1.slot e2
            rw [hu1] at hu2
            cases hu2
            obtain ⟨p', vs, ep, g1, g2⟩ := va'.lst' E1.gh
            cases ep
            unfold indexB at e3
            split at e3
            · rename_i hs
              rw [Bool.and_eq_true] at hs
              obtain ⟨l1, l2⟩ := shaped_dp (K := F.K) (H := H1) (v := .ref p) hs.1 (.lst g1 (g2.up E1.gh))
              have rv : Rp F.K H1 v d := by
                rcases r1 with ⟨p2, o2, hf, rfl, k1, k2, k3, _, _, k4⟩ | ⟨_, r1⟩
                · exact (k4.up E1.gh).rp k1
                · exact r1.up E1.gh
              obtain ⟨d1, d2⟩ := shaped_dp hs.2 rv
              obtain ⟨_, z, z1, z2, z3⟩ := firstB_ok e3
              refine ⟨p, v, toPy d, toPys ds, j, z, rfl, rfl, by rw [hK]; exact l1, by rw [hK]; exact d1, l2, d2, z1, z2, z3, ?_⟩
              exact q _ G1 H1 O1 E1 s1 rv_int
            · cases e3
end
end Dv
namespace Dv
open PySem L2 PyProof.Rows
/-! ### from a text to its functional reading -/
def mapO {α β : Type} (f : α → Option β) : List α → Option (List β)
  | [] => some []
  | a :: as => match f a, mapO f as with
    | some b, some bs => some (b :: bs)
    | _, _ => none
def okName (x : Str) : Bool := !(x == ("__debug__" : Str)) && !(x == ("__classdict__" : Str)) && !(x == ("__name__" : Str))
def ixOf (x : Str) : List Str → Nat → Option Nat
  | [], _ => none
  | y :: ys, i => if x == y then some i else ixOf x ys (i + 1)
def slotIx (N : List Str) (sc : Scope) (x : Str) : Option Nat :=
  if okName x then (match sc.names.lookup x with
    | some .local => ixOf x N 0
    | some .cell => ixOf x N 0
    | some .free => ixOf x N 0
    | _ => none) else none
def locIx (N : List Str) (sc : Scope) (x : Str) : Option Nat :=
  match sc.names.lookup x with
    | some .local => ixOf x N 0
    | some .cell => ixOf x N 0
    | _ => none
def isGlob (sc : Scope) (x : Str) : Bool := okName x && (match sc.names.lookup x with
  | some .globalImplicit => true
  | _ => false)
def constD : Const → Option D
  | .none => some .non
  | .bool b => some (.bl b)
  | .int i => some (.int i)
  | .str s => some (.str s)
  | _ => none
def compTg (N : List Str) (sc : Scope) : Nat → Expr → Option Tg
  | 0, _ => none
  | n + 1, e => match e with
    | .Name x _ => (locIx N sc x).map Tg.nm
    | .Tuple es _ _ => if es.all tgPlain then (mapO (compTg N sc n) es).map Tg.tp else none
    | _ => none
def boolV (op : BoolOp) : List (M D × Bool) → Option (M D × Bool)
  | [] => none
  | [m] => some m
  | m :: ms => (boolV op ms).map fun r => ((match op with
    | .And => andV m.1 r.1
    | .Or => orV m.1 r.1), false)
def boolT (op : BoolOp) : List (M Bool) → Option (M Bool)
  | [] => none
  | [m] => some m
  | m :: ms => (boolT op ms).map fun r => match op with
    | .And => andM m r
    | .Or => orM m r
def cbTab : List (Str × (List D → Option D)) :=
  [("len", f1 lenD), ("abs", f1 absD), ("sum", f1 sumD), ("max", maxL), ("min", minL), ("sorted", f1 sortedD), ("any", f1 anyD), ("all", f1 allD), ("int", f1 intD), ("tuple", f1 tupleD), ("list", f1 listD)]
def memS (x : Str) (l : List Str) : Bool := l.any (· == x)
def fnOf (T : Tab) (x : Str) : Option FnE := T.fns.find? fun e => e.name == x
def lookS {α : Type} (x : Str) : List (Str × α) → Option α
  | [] => none
  | (y, a) :: r => if x == y then some a else lookS x r
def isiTy (x : Str) : Option String := lookS x [("int", "int"), ("bool", "bool"), ("str", "str"), ("tuple", "tuple"), ("list", "list"), ("dict", "dict")]
section
variable (T : Tab) (N : List Str)
def opdOf (ce : Scope → Expr → Option (M D × Bool)) (sc : Scope) (e : Expr) : Option Opd := match e with
  | .Name x _ => (match slotIx N sc x with
    | some i => some (.va i)
    | none => (ce sc e).map fun r => .ex r.1)
  | _ => (ce sc e).map fun r => .ex r.1
def ownOf (scope : Scope) : List (Str × Nat) := scope.names.filterMap fun q => match q.2 with
  | .local => (ixOf q.1 N 0).map fun i => (q.1, i)
  | .cell => (ixOf q.1 N 0).map fun i => (q.1, i)
  | _ => none
mutual
def compE : Nat → Scope → Expr → Option (M D × Bool)
  | 0, _, _ => none
  | n + 1, sc, e => match e with
    | .Constant c _ _ => (constD c).map fun d => (retM d, false)
    | .Name x _ => (match slotIx N sc x with
      | some i => some (varM i, false)
      | none => if isGlob sc x then (lookS x T.cons).map fun d => (retM d, false) else none)
    | .BinOp a op b _ => (match op2D op, opdOf N (compE n) sc a, opdOf N (compE n) sc b with
      | some f, some oa, some ob => some (opM (f2 f) [oa, ob], true)
      | _, _, _ => none)
    | .UnaryOp .USub a _ => (opdOf N (compE n) sc a).map fun o => (opM (f1 negD) [o], true)
    | .UnaryOp .Not a _ => (opdOf N (compE n) sc a).map fun o => (tvM (notM (truM o)), true)
    | .BoolOp op vs _ => (mapO (compE n sc) vs).bind (boolV op)
    | .IfExp c a b _ => (match compT n sc c, compE n sc a, compE n sc b with
      | some t, some p, some q => some (iteM t p.1 q.1, p.2 && q.2)
      | _, _, _ => none)
    | .Compare a [op] [b] _ => if plainE b then (match opdOf N (compE n) sc a, opdOf N (compE n) sc b with
      | some oa, some ob => some (opM (f2 (cmpD op)) [oa, ob], true)
      | _, _ => none) else none
    | .Compare a [op, op'] [b, c] _ => if plainE b && plainE c then (match opdOf N (compE n) sc a, opdOf N (compE n) sc b, opdOf N (compE n) sc c with
      | some oa, some ob, some oc => some (chainM (cmpD op) (cmpD op') oa ob oc, true)
      | _, _, _ => none) else none
    | .Tuple es _ _ => if es.all plainE && decide (es.length ≤ 10000) then (mapO (compE n sc) es).map fun ms => (tupM (ms.map (·.1)), false) else none
    | .List es _ => if es.all plainE && decide (es.length ≤ 10000) then (mapO (compE n sc) es).map fun ms => (lstM (ms.map (·.1)), true) else none
    | .Subscript a (.Slice none none none _) _ => (opdOf N (compE n) sc a).map fun o => (opM sl0 [o], true)
    | .Subscript a (.Slice (some c) none none _) _ => (match opdOf N (compE n) sc a, opdOf N (compE n) sc c with
      | some oa, some oc => some (opM slL [oa, oc], true)
      | _, _ => none)
    | .Subscript a (.Slice none (some c) none _) _ => (match opdOf N (compE n) sc a, opdOf N (compE n) sc c with
      | some oa, some oc => some (opM slH [oa, oc], true)
      | _, _ => none)
    | .Subscript a (.Slice (some c) (some c2) none _) _ => (match opdOf N (compE n) sc a, opdOf N (compE n) sc c, opdOf N (compE n) sc c2 with
      | some oa, some oc, some oc2 => some (slB oa oc oc2, true)
      | _, _, _ => none)
    | .Subscript a b _ => if plainE b then (match opdOf N (compE n) sc a, opdOf N (compE n) sc b with
      | some oa, some ob => some (opM (f2 ixD) [oa, ob], false)
      | _, _ => none) else none
    | .Call (.Name x _) es [] _ => if isGlob sc x && es.all plainE then (match fnOf T x with
      | some f => if es.length = f.ar then (mapO (opdOf N (compE n) sc) es).map fun os => (callM f.sem os, true) else none
      | none => if memS x T.free then (match lookS x cbTab, es with
        | some f, _ :: _ => (mapO (opdOf N (compE n) sc) es).map fun os => (opM f os, true)
        | none, [a, .Name tn _] => if x == ("isinstance" : Str) && (isGlob sc tn && memS tn T.free) then (match isiTy tn, opdOf N (compE n) sc a with
            | some ty, some o => some (opM (f1 (isiD ty)) [o], true)
            | _, _ => none) else none
        | _, _ => none) else none) else none
    | .Call (.Attribute (.Constant (.str s) _ _) m apos) [e] [] cpos => if m == ("join" : Str) && (plainE e && apos.endLine == cpos.line) then (opdOf N (compE n) sc e).map fun o => (opM (f1 (joinD (.str s))) [o], true) else none
    | .Call (.Attribute (.Name x _) m apos) [e] [] cpos => if m == ("index" : Str) && (plainE e && apos.endLine == cpos.line) then (match slotIx N sc x, compE n sc e with
      | some i, some r => some (idxM i r.1, true)
      | _, _ => none) else none
    | .ListComp elt [⟨tg, iter, ifs, 0⟩] scope _ => if plainE iter && blkC N sc scope (ownOf N scope) then
        (match compI n sc tg iter, compTg N scope n tg, compE n (relS scope sc) elt with
        | some mi, some t, some m => if (tgSlots t).all fun i => (ownOf N scope).any fun q => q.2 == i then (match ifs with
          | [] => some (compM mi ((ownOf N scope).map (·.2)) t yesM m.1, true)
          | [c] => (compT n (relS scope sc) c).map fun cc => (compM mi ((ownOf N scope).map (·.2)) t cc m.1, true)
          | _ => none) else none
        | _, _, _ => none) else none
    | _ => none
def compT : Nat → Scope → Expr → Option (M Bool)
  | 0, _, _ => none
  | n + 1, sc, e => match e with
    | .Compare a [op] [b] _ => if plainE b then (match opdOf N (compE n) sc a, opdOf N (compE n) sc b with
      | some oa, some ob => some (boolM (opM (f2 (cmpD op)) [oa, ob]))
      | _, _ => none) else none
    | .Compare a [op, op'] [b, c] _ => if plainE b && plainE c then (match opdOf N (compE n) sc a, opdOf N (compE n) sc b, opdOf N (compE n) sc c with
      | some oa, some ob, some oc => some (boolM (chainM (cmpD op) (cmpD op') oa ob oc))
      | _, _, _ => none) else none
    | .BoolOp op vs _ => (mapO (compT n sc) vs).bind (boolT op)
    | .UnaryOp .Not a _ => (compT n sc a).map notM
    | e => if truthKind e then (opdOf N (compE n) sc e).map truM else none
def compI : Nat → Scope → Expr → Expr → Option (M (List D))
  | 0, _, _, _ => none
  | n + 1, sc, tg, e => match e with
    | .Call (.Name x _) [a] [] _ => if x == ("range" : Str) && (memS x T.free && (isGlob sc x && plainE a)) then (opdOf N (compE n) sc a).map fun o => opI rng1 [o]
        else (compE n sc e).map fun m => seqM m.1
    | .Call (.Name x _) [a, b] [] _ => if x == ("range" : Str) && (memS x T.free && (isGlob sc x && (plainE a && plainE b))) then (match opdOf N (compE n) sc a, opdOf N (compE n) sc b with
        | some oa, some ob => some (opI rng2 [oa, ob])
        | _, _ => none)
      else if x == ("zip" : Str) && (memS x T.free && (isGlob sc x && (plainE a && (plainE b && isTup tg)))) then (match compE n sc a, compE n sc b with
        | some oa, some ob => some (opI zipD [.ex oa.1, .ex ob.1])
        | _, _ => none)
      else (compE n sc e).map fun m => seqM m.1
    | .Call (.Name x _) [a, b, c] [] _ => if x == ("range" : Str) && (memS x T.free && (isGlob sc x && (plainE a && (plainE b && plainE c)))) then (match opdOf N (compE n) sc a, opdOf N (compE n) sc b, opdOf N (compE n) sc c with
        | some oa, some ob, some oc => some (opI rng3 [oa, ob, oc])
        | _, _, _ => none)
      else (compE n sc e).map fun m => seqM m.1
    | e => (compE n sc e).map fun m => seqM m.1
end
def swK (sc : Scope) : ScopeKind := if sc.kind.isAnnotationScope then .function else sc.kind
def swBad (ts vs : List Expr) (sc : Scope) : Bool := !(ts.length == 2 || ts.length == 3) || vs.length != ts.length || swK sc != .function
def swStar (vs : List Expr) : Bool := vs.any fun | .Starred .. => true | _ => false
def swNm (ts : List Expr) (sc : Scope) : List Str :=
  let line := (ts.head?.map (·.pos.line)).getD 0
  ts.filterMap fun
    | .Name id pos => if sc.names.lookup id == some .local && pos.line == line then some id else none
    | _ => none
def swapQ (ts vs : List Expr) (sc : Scope) : Option (Option (List Str)) :=
  if swBad ts vs sc = true then some none
  else if swStar vs = true then some none
  else if ((swNm ts sc).length != ts.length || (swNm ts sc).eraseDups.length != (swNm ts sc).length) = true then some none
  else if vs.all (foldedForSure 8) = true then some none
  else if vs.all (constantsAlone 8) = true then none
  else some (some (swNm ts sc))
def lcSwap (sc : Scope) (x : Str) (p' : Pos) (e : Expr) : Bool := match e with
  | .ListComp _ [⟨_, _, _, 0⟩] scope lpos => (match sc.kind with | .function => true | _ => false) && ((match sc.names.lookup x with | some .local => true | _ => false) && (p'.line == lpos.line && !(scope.names.any fun (n, k) => n == x && (k == .local || k == .cell))))
  | _ => false
def blkS : List S → S
  | [] => nxS
  | [s] => s
  | s :: r => seqS s (blkS r)
def compS (sc : Scope) : Nat → Stmt → Option S
  | 0, _ => none
  | n + 1, st => match st with
    | .Return none _ => some retNS
    | .Return (some e) _ => (match e with
      | .Name x _ => (match slotIx N sc x with
        | some i => some (retV i)
        | none => (compE T N n sc e).map fun r => retS r.1 r.2)
      | _ => (compE T N n sc e).map fun r => retS r.1 r.2)
    | .Assign [.Name x p'] e _ => (match locIx N sc x, compE T N n sc e with
      | some i, some r => if isComp e && !lcSwap sc x p' e then none else some (asgS i r.1 r.2)
      | _, _ => none)
    | .Assign [.Tuple [.Name x px, .Name y py] kt pt] (.Tuple [a, b] k2 pt2) _ => (match swapQ [.Name x px, .Name y py] [a, b] sc with
      | some (some _) => if plainE a && plainE b then (match ixOf x N 0, ixOf y N 0, compE T N n sc a, compE T N n sc b with
        | some i, some j, some p, some q => if i = j then none else some (parS [⟨i, p.1, p.2⟩, ⟨j, q.1, q.2⟩])
        | _, _, _, _ => none) else none
      | some none => (match compTg N sc n (.Tuple [.Name x px, .Name y py] kt pt), compE T N n sc (.Tuple [a, b] k2 pt2) with
        | some t, some r => some (untS t r.1)
        | _, _ => none)
      | none => none)
    | .Assign [.Tuple [.Name x px, .Name y py, .Name z pz] kt pt] (.Tuple [a, b, c] k2 pt2) _ => (match swapQ [.Name x px, .Name y py, .Name z pz] [a, b, c] sc with
      | some (some _) => if plainE a && (plainE b && plainE c) then (match ixOf x N 0, ixOf y N 0, ixOf z N 0, compE T N n sc a, compE T N n sc b, compE T N n sc c with
        | some i, some j, some l, some p, some q, some r => if i = j ∨ i = l ∨ j = l then none else some (parS [⟨i, p.1, p.2⟩, ⟨j, q.1, q.2⟩, ⟨l, r.1, r.2⟩])
        | _, _, _, _, _, _ => none) else none
      | some none => (match compTg N sc n (.Tuple [.Name x px, .Name y py, .Name z pz] kt pt), compE T N n sc (.Tuple [a, b, c] k2 pt2) with
        | some t, some r => some (untS t r.1)
        | _, _ => none)
      | none => none)
    | .Assign [.Tuple es kt pt] e _ => if isTup e then none else (match compTg N sc n (.Tuple es kt pt), compE T N n sc e with
      | some t, some r => some (untS t r.1)
      | _, _ => none)
    | .Assign [.Subscript (.Name x _) ix _] e _ => if plainE ix then (match slotIx N sc x, opdOf N (compE T N n) sc ix, compE T N n sc e with
      | some j, some oi, some r => some (setS j oi r.1)
      | _, _, _ => none) else none
    | .AugAssign (.Name x _) op e _ => (match locIx N sc x, augD op, opdOf N (compE T N n) sc e with
      | some i, some f, some o => some (augS i f o)
      | _, _, _ => none)
    | .Expr (.Constant (.str _) _ _) _ => some nxS
    | .Expr (.Call (.Attribute (.Name x _) m apos) [e] [] cpos) _ => if m == ("append" : Str) && (plainE e && apos.endLine == cpos.line) then (match slotIx N sc x, compE T N n sc e with
      | some i, some r => some (appS i r.1)
      | _, _ => none) else none
    | .If c a b _ => (match compT T N n sc c, mapO (compS sc n) a, mapO (compS sc n) b with
      | some t, some s1, some s2 => some (ifS t (blkS s1) (blkS s2))
      | _, _, _ => none)
    | .For tg iter body [] _ => if plainE iter then (match compI T N n sc tg iter, compTg N sc n tg, mapO (compS sc n) body with
      | some mi, some t, some s => some (forS mi t (blkS s))
      | _, _, _ => none) else none
    | .While c body [] _ => (match compT T N n sc c, mapO (compS sc n) body with
      | some t, some s => some (whileS t (blkS s))
      | _, _ => none)
    | .Pass _ => some nxS
    | .Break _ => some bkS
    | .Continue _ => some ctS
    | _ => none
end
end Dv
namespace Dv
open PySem L2 PyProof.Rows
theorem mapO_ok {α β : Type} {f : α → Option β} : ∀ {as : List α} {bs : List β}, mapO f as = some bs → as.length = bs.length ∧ ∀ (P : α → β → Prop), (∀ a b, a ∈ as → f a = some b → P a b) → PySem.Paired P as bs
  | [], bs, h => by
    cases h
    exact ⟨rfl, fun _ _ => .nil⟩
  | a :: as, bs, h => by
    simp only [mapO] at h
    cases e1 : f a with
    | none => rw [e1] at h; cases h
    | some b =>
      rw [e1] at h
      cases e2 : mapO f as with
      | none => rw [e2] at h; cases h
      | some bs' =>
        rw [e2] at h
        cases h
        obtain ⟨l, p⟩ := mapO_ok e2
        exact ⟨by rw [List.length_cons, List.length_cons, l], fun P hp => .cons (hp a b List.mem_cons_self e1) (p P fun a b m e => hp a b (List.mem_cons_of_mem _ m) e)⟩
theorem ixOf_ok {x : Str} : ∀ {N : List Str} {i j : Nat}, ixOf x N i = some j → i ≤ j ∧ N[j - i]? = some x
  | [], i, j, h => by cases h
  | y :: ys, i, j, h => by
    simp only [ixOf] at h
    split at h
    · rename_i e
      cases h
      have e' : x = y := eq_of_beq e
      subst e'
      exact ⟨Nat.le_refl _, by rw [Nat.sub_self]; rfl⟩
    · obtain ⟨a, b⟩ := ixOf_ok h
      refine ⟨by omega, ?_⟩
      rw [show j - i = (j - (i + 1)) + 1 by omega]
      exact b
theorem ix0 {x : Str} {N : List Str} {j : Nat} (h : ixOf x N 0 = some j) : N[j]? = some x := (ixOf_ok h).2
theorem lookS_ok {α : Type} {x : Str} {a : α} : ∀ {l : List (Str × α)}, lookS x l = some a → (x, a) ∈ l
  | [], h => by cases h
  | (y, b) :: r, h => by
    simp only [lookS] at h
    split at h
    · rename_i e
      cases h
      have e' : x = y := eq_of_beq e
      subst e'
      exact List.mem_cons_self
    · exact List.mem_cons_of_mem _ (lookS_ok h)
theorem memS_ok {x : Str} {l : List Str} (h : memS x l = true) : x ∈ l := by
  obtain ⟨y, hy, e⟩ := List.any_eq_true.mp h
  have e' : y = x := eq_of_beq e
  exact e' ▸ hy
theorem okName_ok {x : Str} (h : okName x = true) : (x == ("__debug__" : Str)) = false ∧ (x == ("__classdict__" : Str)) = false ∧ x ≠ "__name__" := by
  unfold okName at h
  simp only [Bool.and_eq_true, Bool.not_eq_true'] at h
  exact ⟨h.1.1, h.1.2, fun e => by rw [e] at h; simp at h⟩
section
variable {F : Fx} {T : Tab} {N : List Str} {sc : Scope} {k : Nat} {X : Cx} {e a b tg : Expr} {pos : Pos}
theorem slot_ok {x : Str} {i : Nat} (o : Xo F T N sc k X) (h : slotIx N sc x = some i) : PE X (.Name x pos) (tVar i) := by
  unfold slotIx at h
  split at h
  · rename_i hk
    obtain ⟨h1, h2, _⟩ := okName_ok hk
    split at h
    · rename_i hl
      exact pe_var (by rw [o.hN]; exact ix0 h) (.inl (by rw [o.hs]; exact hl)) h1 h2
    · rename_i hl
      exact pe_var (by rw [o.hN]; exact ix0 h) (.inr (.inl (by rw [o.hs]; exact hl))) h1 h2
    · rename_i hl
      exact pe_var (by rw [o.hN]; exact ix0 h) (.inr (.inr (by rw [o.hs]; exact hl))) h1 h2
    · cases h
  · cases h
theorem glob_ok {x : Str} (o : Xo F T N sc k X) (h : isGlob sc x = true) : Gl X x ∧ (x == ("__debug__" : Str)) = false ∧ x ≠ "__name__" := by
  unfold isGlob at h
  rw [Bool.and_eq_true] at h
  obtain ⟨h1, _, h3⟩ := okName_ok h.1
  refine ⟨?_, h1, h3⟩
  have h2 := h.2
  split at h2
  · rename_i hl
    show X.env.scope.names.lookup x = _
    rw [o.hs]
    exact hl
  · cases h2
theorem opd_ok {ce : Scope → Expr → Option (M D × Bool)} {od : Opd} (o : Xo F T N sc k X) (ih : ∀ m fr, ce sc e = some (m, fr) → PE X e (rdE F m fr)) (h : opdOf N ce sc e = some od) : ∃ t, Op1 F X e od t := by
  have go : ∀ {od}, (ce sc e).map (fun r => Opd.ex r.1) = some od → ∃ t, Op1 F X e od t := fun {od} h => by
    cases q : ce sc e with
    | none => rw [q] at h; cases h
    | some r =>
      rw [q] at h
      cases h
      exact ⟨_, .ex (ih r.1 r.2 q)⟩
  unfold opdOf at h
  split at h
  · split at h
    · rename_i i hs
      cases h
      exact ⟨_, .va (slot_ok o hs)⟩
    · exact go h
  · exact go h
theorem ops_of {os : List Opd} {es : List Expr} (h : PySem.Paired (fun e od => ∃ t, Op1 F X e od t) es os) : ∃ ts, Ops F X es os ts := by
  induction h with
  | nil => exact ⟨[], .nil⟩
  | cons p _ ih =>
    obtain ⟨t, p⟩ := p
    obtain ⟨ts, ih⟩ := ih
    exact ⟨t :: ts, .cons p ih⟩
theorem ops_ex {ms : List (M D × Bool)} {es : List Expr} (h : PySem.Paired (fun e (m : M D × Bool) => PE X e (rdE F m.1 m.2)) es ms) : ∃ ts, Ops F X es ((ms.map (·.1)).map Opd.ex) ts := by
  induction h with
  | nil => exact ⟨[], .nil⟩
  | cons p _ ih =>
    obtain ⟨ts, ih⟩ := ih
    exact ⟨_ :: ts, .cons (.ex p) ih⟩
theorem const_ok {c : Const} {j : Nat} {d : D} (h : constD c = some d) : PE X (.Constant c j pos) (rdE F (retM d) false) := by
  unfold constD at h
  split at h
  · cases h; exact e_const pe_non fun _ => .non
  · cases h; exact e_const pe_bl fun _ => .bl _
  · cases h; exact e_const pe_int fun _ => .int _
  · cases h; exact e_const pe_str fun _ => .str _
  · cases h
theorem boolV_ok {op : BoolOp} (hK : X.K = F.K) : ∀ {vs : List Expr} {ms : List (M D × Bool)} {m : M D} {fr : Bool}, PySem.Paired (fun e (m : M D × Bool) => PE X e (rdE F m.1 m.2)) vs ms → boolV op ms = some (m, fr) → PE X (.BoolOp op vs pos) (rdE F m fr)
  | _, _, m, fr, .nil, h => by cases h
  | _, _, m, fr, .cons p .nil, h => by
    cases h
    exact e_one p
  | _ :: _ :: _, _ :: m1 :: ms, m, fr, .cons p (.cons q r), h => by
    simp only [boolV] at h
    cases e1 : boolV op (m1 :: ms) with
    | none => rw [e1] at h; cases h
    | some r2 =>
      rw [e1] at h
      have ih := boolV_ok hK (.cons q r) e1
      cases op with
      | And => cases h; exact e_and hK p ih
      | Or => cases h; exact e_or hK p ih
theorem boolT_ok {op : BoolOp} : ∀ {vs : List Expr} {ms : List (M Bool)} {m : M Bool}, PySem.Paired (fun e (m : M Bool) => PT X e (rdT F m)) vs ms → boolT op ms = some m → PW X (.BoolOp op vs pos) (rdT F m)
  | _, _, m, .nil, h => by cases h
  | _, _, m, .cons p .nil, h => by
    cases h
    cases op with
    | And => exact w_and1 p
    | Or => exact w_or1 p
  | _ :: _ :: _, _ :: m1 :: ms, m, .cons p (.cons q r), h => by
    simp only [boolT] at h
    cases e1 : boolT op (m1 :: ms) with
    | none => rw [e1] at h; cases h
    | some r2 =>
      rw [e1] at h
      have ih := boolT_ok (.cons q r) e1
      cases op with
      | And => cases h; exact w_and p ih
      | Or => cases h; exact w_or p ih
theorem cb_ok {x : Str} {f : List D → Option D} {p : Pos} {es : List Expr} {os : List Opd} {ts : List TE} (o : Xo F T N sc k X) (hm : (x, f) ∈ cbTab) (hf : x ∈ T.free) (gl : Gl X x) (h : Ops F X es os ts) (pl : es.all plainE = true) (ne : es ≠ []) (hn : x ≠ "__name__") (hd : (x == ("__debug__" : Str)) = false) :
    PE X (.Call (.Name x p) es [] pos) (rdE F (opM f os) true) := by
  have hK := o.hK
  simp only [cbTab, List.mem_cons, List.not_mem_nil, or_false, Prod.mk.injEq] at hm
  rcases hm with ⟨rfl, rfl⟩ | ⟨rfl, rfl⟩ | ⟨rfl, rfl⟩ | ⟨rfl, rfl⟩ | ⟨rfl, rfl⟩ | ⟨rfl, rfl⟩ | ⟨rfl, rfl⟩ | ⟨rfl, rfl⟩ | ⟨rfl, rfl⟩ | ⟨rfl, rfl⟩ | ⟨rfl, rfl⟩
  · obtain ⟨r, h1, h2⟩ := cb_len (F := F) hK; exact e_cb o hf (by decide +kernel) gl h1 h2 h pl ne hn hd
  · obtain ⟨r, h1, h2⟩ := cb_abs (F := F) (X := X); exact e_cb o hf (by decide +kernel) gl h1 h2 h pl ne hn hd
  · obtain ⟨r, h1, h2⟩ := cb_sum (F := F) hK o.calm; exact e_cb o hf (by decide +kernel) gl h1 h2 h pl ne hn hd
  · obtain ⟨r, h1, h2⟩ := cb_max (F := F) o.calm; exact e_cb o hf (by decide +kernel) gl h1 h2 h pl ne hn hd
  · obtain ⟨r, h1, h2⟩ := cb_min (F := F) o.calm; exact e_cb o hf (by decide +kernel) gl h1 h2 h pl ne hn hd
  · obtain ⟨r, h1, h2⟩ := cb_sorted (F := F) (X := X); exact e_cb o hf (by decide +kernel) gl h1 h2 h pl ne hn hd
  · obtain ⟨r, h1, h2⟩ := cb_any (F := F) o.calm; exact e_cb o hf (by decide +kernel) gl h1 h2 h pl ne hn hd
  · obtain ⟨r, h1, h2⟩ := cb_all (F := F) o.calm; exact e_cb o hf (by decide +kernel) gl h1 h2 h pl ne hn hd
  · obtain ⟨r, h1, h2⟩ := cb_int (F := F) (X := X); exact e_ct o hf (by decide +kernel) gl h1 h2 h pl ne hn hd
  · obtain ⟨r, h1, h2⟩ := cb_tuple (F := F) hK; exact e_ct o hf (by decide +kernel) gl h1 h2 h pl ne hn hd
  · obtain ⟨r, h1, h2⟩ := cb_list (F := F) hK; exact e_ct o hf (by decide +kernel) gl h1 h2 h pl ne hn hd
theorem isiTy_ok {x : Str} {ty : String} (h : isiTy x = some ty) : bootBuiltins x = some (.type ty) ∧ ty ∈ isiTypes := by
  have hm := lookS_ok h
  simp only [List.mem_cons, List.not_mem_nil, or_false, Prod.mk.injEq] at hm
  rcases hm with ⟨rfl, rfl⟩ | ⟨rfl, rfl⟩ | ⟨rfl, rfl⟩ | ⟨rfl, rfl⟩ | ⟨rfl, rfl⟩ | ⟨rfl, rfl⟩ <;> exact ⟨by decide +kernel, by simp [isiTypes]⟩
theorem e_join {s : Str} {e : Expr} {od : Opd} {t : TE} {p : Pos} {j : Nat} {apos cpos : Pos} (hK : X.K = F.K) (h : Op1 F X e od t) (pl : plainE e = true) (hl : (apos.endLine == cpos.line) = true) :
    PE X (.Call (.Attribute (.Constant (.str s) j p) "join" apos) [e] [] cpos) (rdE F (opM (f1 (joinD (.str s))) [od]) true) := by
  refine peI (pe_join pe_str h.pe (star_of pl _ _) rfl hl) fun σ H Q q => ?_
  refine ⟨⟨s, rfl⟩, ?_⟩
  show tList [t] σ H (fun vs H1 => match vs with | [y] => ∃ a p, ∃ ys : List Str, V.str s = .str a ∧ [y] = [.ref p] ∧ (SqL X.K H1 p (ys.map V.str) ∨ SqT X.K H1 p (ys.map V.str)) ∧ (ys.map (·.length)).sum + ys.length * a.length ≤ 16777216 ∧ Q (.str (Txt.join a ys)) H1 | _ => False)
  refine opN_rd (r := fun vs H1 Q => match vs with | [y] => ∃ a p, ∃ ys : List Str, V.str s = .str a ∧ [y] = [.ref p] ∧ (SqL X.K H1 p (ys.map V.str) ∨ SqT X.K H1 p (ys.map V.str)) ∧ (ys.map (·.length)).sum + ys.length * a.length ≤ 16777216 ∧ Q (.str (Txt.join a ys)) H1 | _ => False) (.cons h .nil) ?_ q
  refine one_op (r := fun y H1 Q => ∃ a p, ∃ ys : List Str, V.str s = .str a ∧ [y] = [.ref p] ∧ (SqL X.K H1 p (ys.map V.str) ∨ SqT X.K H1 p (ys.map V.str)) ∧ (ys.map (·.length)).sum + ys.length * a.length ≤ 16777216 ∧ Q (.str (Txt.join a ys)) H1) ?_
  intro G H σ ρ O x a d Q E va e w
  have go : ∀ {xs : List D}, joinB s xs = some d → ∃ ys, xs = ys.map D.str ∧ (ys.map (·.length)).sum + ys.length * s.length ≤ 16777216 ∧ d = .str (Txt.join s ys) := fun {xs} e => by
    unfold joinB at e
    cases e1 : strsOf xs with
    | none => rw [e1] at e; cases e
    | some ys =>
      rw [e1] at e
      replace e : (if (ys.map (·.length)).sum + ys.length * s.length ≤ 16777216 then some (D.str (Txt.join s ys)) else none) = some d := e
      split at e
      · rename_i hz
        cases e
        exact ⟨ys, strsOf_eq e1, hz, rfl⟩
      · cases e
  unfold joinD at e
  split at e
  · rename_i s' xs h1
    cases h1
    obtain ⟨ys, rfl, hz, rfl⟩ := go e
    obtain ⟨p, vs, rfl, h1, h2⟩ := va.lst' E.gh
    have e3 := rp_strs h2
    subst e3
    exact ⟨s, p, ys, rfl, rfl, .inl (.inl (.inl h1)), hz, w _ _ _ _ E strf rv_str⟩
  · rename_i s' xs h1
    cases h1
    obtain ⟨ys, rfl, hz, rfl⟩ := go e
    obtain ⟨p, vs, rfl, h1, h2⟩ := va.tup'
    have e3 := rp_strs h2
    subst e3
    exact ⟨s, p, ys, rfl, rfl, .inr (by rw [hK]; exact sqT_up E.gh h1), hz, w _ _ _ _ E strf rv_str⟩
  · cases e
theorem tg_ok (hN : X.N = N) (nd : N.Nodup) (hc : X.calm = true) (hloc : ∀ x, (sc.names.lookup x = some .local ∨ sc.names.lookup x = some .cell) → Loc X.env.scope x ∧ (X.fn x = true ∨ X.env.scope.names.lookup x = some .local)) :
    ∀ (n : Nat) (e : Expr) (t : Tg), compTg N sc n e = some t → PG X e (gOf X.K t)
  | 0, e, t, h => by cases h
  | n + 1, e, t, h => by
    simp only [compTg] at h
    split at h
    · rename_i x p
      cases e1 : locIx N sc x with
      | none => rw [e1] at h; cases h
      | some i =>
        rw [e1] at h
        cases h
        unfold locIx at e1
        split at e1
        · rename_i hl
          obtain ⟨h1, h2⟩ := hloc x (.inl hl)
          exact pg_nm (by rw [hN]; exact nd) (by rw [hN]; exact ix0 e1) h1 h2
        · rename_i hl
          obtain ⟨h1, h2⟩ := hloc x (.inr hl)
          exact pg_nm (by rw [hN]; exact nd) (by rw [hN]; exact ix0 e1) h1 h2
        · cases e1
    · rename_i es x1 p
      split at h
      · rename_i hp
        cases e1 : mapO (compTg N sc n) es with
        | none => rw [e1] at h; cases h
        | some ts =>
          rw [e1] at h
          cases h
          obtain ⟨hl, pr⟩ := mapO_ok e1
          replace pr := pr (fun e t => PG X e (gOf X.K t)) fun e t _ he => tg_ok hN nd hc hloc n e t he
          refine pg_tp hc ?_ hp hl
          clear e1 hl
          induction pr with
          | nil => exact pgs_nil
          | cons p1 _ ih =>
            rw [List.all_cons, Bool.and_eq_true] at hp
            exact pgs_c p1 (ih hp.2) hp.1
      · cases h
    · cases h
end
end Dv
namespace Dv
open PySem L2 PyProof.Rows
section
variable {F : Fx} {T : Tab} {N : List Str} {sc : Scope} {k : Nat} {X : Cx} {e a b tg : Expr} {pos : Pos}
/-- within a comprehension's block -/
theorem Xo.blk (o : Xo F T N sc k X) (B : Hp) (s : Shared) (H : Hp) (scope : Scope) (C : Addr) (cl : List (Str × Addr)) (fp : List Addr) : Xo (F.in' B) T N (relS scope sc) k (X.blk s H scope (compEnvC scope cl C X.env) fp) where
  hK := o.hK
  hN := o.hN
  hs := by
    rw [← o.hs]
    rfl
  nd := o.nd
  calm := o.calm
  room := o.room
  fns := o.fns
  cons := o.cons
  free := o.free
  pass := fun σ pins H s e s' I c => by
    obtain ⟨_, _, _, _, _, _, _, _, _, _, _, _, z⟩ := c
    exact z.elim
theorem blk_loc {s : Shared} {H : Hp} {scope : Scope} {C : Addr} {cl : List (Str × Addr)} {fp : List Addr} {x : Str} (h : scope.names.lookup x = some .local ∨ scope.names.lookup x = some .cell) :
    Loc (X.blk s H scope (compEnvC scope cl C X.env) fp).env.scope x ∧ ((X.blk s H scope (compEnvC scope cl C X.env) fp).fn x = true ∨ (X.blk s H scope (compEnvC scope cl C X.env) fp).env.scope.names.lookup x = some .local) := by
  rcases h with h | h
  · have h2 := lookup_relS_keep (sc := X.env.scope) (k := .local) (fun z => nomatch z) h
    exact ⟨.inl h2, .inr h2⟩
  · have h2 := lookup_relS_keep (sc := X.env.scope) (k := .cell) (fun z => nomatch z) h
    refine ⟨.inr h2, .inl ?_⟩
    show (scope.names.lookup x == some .cell) = true
    rw [h]
    rfl
/-- what is shown of texts up to a depth -/
structure CompOk (T : Tab) (N : List Str) (n : Nat) : Prop where
  e : ∀ (sc : Scope) (e : Expr) (m : M D) (fr : Bool), compE T N n sc e = some (m, fr) → ∀ (F : Fx) (X : Cx) (k : Nat), Xo F T N sc k X → PE X e (rdE F m fr)
  t : ∀ (sc : Scope) (e : Expr) (m : M Bool), compT T N n sc e = some m → ∀ (F : Fx) (X : Cx) (k : Nat), Xo F T N sc k X → PT X e (rdT F m)
  i : ∀ (sc : Scope) (tg e : Expr) (m : M (List D)), compI T N n sc tg e = some m → ∀ (F : Fx) (X : Cx) (k : Nat), Xo F T N sc k X → PI X tg e (rdI F m)
theorem eq3 {α β γ : Type} {x : Option α} {y : Option β} {f : α → β → Option γ} {r : γ} (h : (match x, y with | some a, some b => f a b | _, _ => none) = some r) : ∃ a b, x = some a ∧ y = some b ∧ f a b = some r := by
  cases x <;> cases y <;> first | exact ⟨_, _, rfl, rfl, h⟩ | cases h
theorem CompOk.lc {n : Nat} (ih : CompOk T N n) {elt iter : Expr} {ifs : List Expr} {scope : Scope} {m : M D} {fr : Bool} (o : Xo F T N sc k X)
    (h : (if plainE iter && blkC N sc scope (ownOf N scope) then
        (match compI T N n sc tg iter, compTg N scope n tg, compE T N n (relS scope sc) elt with
        | some mi, some t, some m => if (tgSlots t).all fun i => (ownOf N scope).any fun q => q.2 == i then (match ifs with
          | [] => some (compM mi ((ownOf N scope).map (·.2)) t yesM m.1, true)
          | [c] => (compT T N n (relS scope sc) c).map fun cc => (compM mi ((ownOf N scope).map (·.2)) t cc m.1, true)
          | _ => none) else none
        | _, _, _ => none) else none) = some (m, fr)) :
    ∃ mi t me cond fe, plainE iter = true ∧ BlkOk X.N X.env.scope scope (ownOf N scope) ∧ PI X tg iter (rdI F mi) ∧ (∀ i ∈ tgSlots t, i ∈ (ownOf N scope).map (·.2)) ∧
      (∀ (s : Shared) (H : Hp) (C : Addr) (cl : List (Str × Addr)) (fp : List Addr), PG (X.blk s H scope (compEnvC scope cl C X.env) fp) tg (gOf X.K t)) ∧
      (∀ (s : Shared) (H : Hp) (C : Addr) (cl : List (Str × Addr)) (fp : List Addr) (B : Hp), PTs (X.blk s H scope (compEnvC scope cl C X.env) fp) ifs (rdT (F.in' B) cond)) ∧
      (∀ (s : Shared) (H : Hp) (C : Addr) (cl : List (Str × Addr)) (fp : List Addr) (B : Hp), PE (X.blk s H scope (compEnvC scope cl C X.env) fp) elt (rdE (F.in' B) me fe)) ∧
      m = compM mi ((ownOf N scope).map (·.2)) t cond me ∧ fr = true := by
  split at h
  rotate_left
  · cases h
  rename_i hp
  rw [Bool.and_eq_true] at hp
  cases e1 : compI T N n sc tg iter with
  | none => rw [e1] at h; cases h
  | some mi =>
    cases e2 : compTg N scope n tg with
    | none => rw [e1, e2] at h; cases h
    | some t =>
      cases e3 : compE T N n (relS scope sc) elt with
      | none => rw [e1, e2, e3] at h; cases h
      | some me =>
        rw [e1, e2, e3] at h
        simp only at h
        split at h
        rotate_left
        · cases h
        rename_i hsl
        have hs : ∀ i ∈ tgSlots t, i ∈ (ownOf N scope).map (·.2) := fun i hi => by
          obtain ⟨q, hq, eq⟩ := List.any_eq_true.mp (List.all_eq_true.mp hsl i hi)
          exact List.mem_map.mpr ⟨q, hq, eq_of_beq eq⟩
        have hb : BlkOk X.N X.env.scope scope (ownOf N scope) := by
          rw [o.hN, o.hs]
          exact blkOk_by hp.2
        have hg : ∀ (s : Shared) (H : Hp) (C : Addr) (cl : List (Str × Addr)) (fp : List Addr), PG (X.blk s H scope (compEnvC scope cl C X.env) fp) tg (gOf X.K t) := fun s H C cl fp =>
          tg_ok (X := X.blk s H scope (compEnvC scope cl C X.env) fp) (sc := scope) o.hN o.nd o.calm (fun x hx => blk_loc hx) n tg t e2
        have he : ∀ (s : Shared) (H : Hp) (C : Addr) (cl : List (Str × Addr)) (fp : List Addr) (B : Hp), PE (X.blk s H scope (compEnvC scope cl C X.env) fp) elt (rdE (F.in' B) me.1 me.2) := fun s H C cl fp B =>
          ih.e _ _ _ _ e3 _ _ _ (o.blk B s H scope C cl fp)
        split at h
        · cases h
          refine ⟨mi, t, me.1, yesM, me.2, hp.1, hb, ih.i _ _ _ _ e1 _ _ _ o, hs, hg, fun s H C cl fp B => ?_, he, rfl, rfl⟩
          exact ⟨fun pins s' σ H' Q I ⟨G, ρ, O, E, q⟩ => pts_nil.run pins s' σ H' Q I (q G H' O E strf)⟩
        · rename_i c
          cases e4 : compT T N n (relS scope sc) c with
          | none => rw [e4] at h; cases h
          | some cc =>
            rw [e4] at h
            cases h
            exact ⟨mi, t, me.1, cc, me.2, hp.1, hb, ih.i _ _ _ _ e1 _ _ _ o, hs, hg, fun s H C cl fp B => pts_one (ih.t _ _ _ e4 _ _ _ (o.blk B s H scope C cl fp)), he, rfl, rfl⟩
        · cases h
theorem map_some {α β : Type} {x : Option α} {f : α → β} {r : β} (h : x.map f = some r) : ∃ a, x = some a ∧ f a = r := by
  cases x with
  | none => cases h
  | some a => cases h; exact ⟨a, rfl, rfl⟩
theorem step_e {n : Nat} (ih : CompOk T N n) (sc : Scope) (e : Expr) (m : M D) (fr : Bool) (h : compE T N (n + 1) sc e = some (m, fr)) (F : Fx) (X : Cx) (k : Nat) (o : Xo F T N sc k X) : PE X e (rdE F m fr) := by
  have hK := o.hK
  have hu := o.hu
  have od : ∀ {e : Expr} {q : Opd}, opdOf N (compE T N n) sc e = some q → ∃ t, Op1 F X e q t := fun {e q} hq => opd_ok o (fun m fr hm => ih.e sc e m fr hm F X k o) hq
  have ods : ∀ {es : List Expr} {os : List Opd}, mapO (opdOf N (compE T N n) sc) es = some os → ∃ ts, Ops F X es os ts := fun {es os} hq => ops_of ((mapO_ok hq).2 _ fun e q _ he => od he)
  have ems : ∀ {es : List Expr} {ms : List (M D × Bool)}, mapO (compE T N n sc) es = some ms → PySem.Paired (fun e (m : M D × Bool) => PE X e (rdE F m.1 m.2)) es ms := fun {es ms} hq => (mapO_ok hq).2 _ fun e m _ he => ih.e sc e m.1 m.2 he F X k o
  simp only [compE] at h
  split at h
  · -- Constant
    obtain ⟨d, h1, h2⟩ := map_some h
    cases h2
    exact const_ok h1
  · -- Name
    split at h
    · rename_i i hs
      cases h
      exact e_var (slot_ok o hs)
    · split at h
      · rename_i hg
        obtain ⟨d, h1, h2⟩ := map_some h
        cases h2
        obtain ⟨g1, g2, g3⟩ := glob_ok o hg
        obtain ⟨u, v, c1, c2, c3⟩ := o.cons _ (lookS_ok h1)
        exact e_const (pe_glob g1 c1 c2 g2) (by rw [← hK]; exact c3)
      · cases h
  · -- BinOp
    split at h
    · rename_i f oa ob h1 h2 h3
      cases h
      obtain ⟨_, ha⟩ := od h2
      obtain ⟨_, hb⟩ := od h3
      exact e_bin hK h1 ha hb
    · cases h
  · obtain ⟨q, h1, h2⟩ := map_some h
    cases h2
    obtain ⟨_, ha⟩ := od h1
    exact e_neg ha
  · obtain ⟨q, h1, h2⟩ := map_some h
    cases h2
    obtain ⟨_, ha⟩ := od h1
    exact e_not hK ha
  · -- BoolOp
    rename_i op vs p
    cases e1 : mapO (compE T N n sc) vs with
    | none => rw [e1] at h; cases h
    | some ms =>
      rw [e1] at h
      exact boolV_ok hK (ems e1) h
  · -- IfExp
    split at h
    · rename_i t p q h1 h2 h3
      cases h
      have hc := ih.t _ _ _ h1 F X k o
      have ha := ih.e _ _ _ _ h2 F X k o
      have hb := ih.e _ _ _ _ h3 F X k o
      cases e1 : (p.2 && q.2) with
      | true =>
        rw [Bool.and_eq_true] at e1
        rw [e1.1] at ha
        rw [e1.2] at hb
        exact e_ite hc ha hb
      | false => exact e_ite hc (rdE_weak ha) (rdE_weak hb)
    · cases h
  · -- Compare 1
    split at h
    · rename_i hp
      split at h
      · rename_i oa ob h1 h2
        cases h
        obtain ⟨_, ha⟩ := od h1
        obtain ⟨_, hb⟩ := od h2
        exact e_cmp hK hu ha hb hp
      · cases h
    · cases h
  · -- Compare 2
    split at h
    · rename_i hp
      rw [Bool.and_eq_true] at hp
      split at h
      · rename_i oa ob oc h1 h2 h3
        cases h
        obtain ⟨_, ha⟩ := od h1
        obtain ⟨_, hb⟩ := od h2
        obtain ⟨_, hc⟩ := od h3
        exact e_chain hK hu ha hb hc hp.1 hp.2
      · cases h
    · cases h
  · -- Tuple
    split at h
    · rename_i hp
      rw [Bool.and_eq_true] at hp
      obtain ⟨ms, h1, h2⟩ := map_some h
      cases h2
      obtain ⟨ts, hops⟩ := ops_ex (ems h1)
      exact e_tup hops hp.1 (by rw [List.length_map, ← (mapO_ok h1).1]; exact of_decide_eq_true hp.2)
    · cases h
  · -- List
    split at h
    · rename_i hp
      rw [Bool.and_eq_true] at hp
      obtain ⟨ms, h1, h2⟩ := map_some h
      cases h2
      obtain ⟨ts, hops⟩ := ops_ex (ems h1)
      exact e_lst hops hp.1 (by rw [List.length_map, ← (mapO_ok h1).1]; exact of_decide_eq_true hp.2)
    · cases h
  · obtain ⟨q, h1, h2⟩ := map_some h
    cases h2
    obtain ⟨_, ha⟩ := od h1
    exact e_sl0 hK ha
  · split at h
    · rename_i oa oc h1 h2
      cases h
      obtain ⟨_, ha⟩ := od h1
      obtain ⟨_, hc⟩ := od h2
      exact e_slL hK ha hc
    · cases h
  · split at h
    · rename_i oa oc h1 h2
      cases h
      obtain ⟨_, ha⟩ := od h1
      obtain ⟨_, hc⟩ := od h2
      exact e_slH hK ha hc
    · cases h
  · split at h
    · rename_i oa oc oc2 h1 h2 h3
      cases h
      obtain ⟨_, ha⟩ := od h1
      obtain ⟨_, hc⟩ := od h2
      obtain ⟨_, hc2⟩ := od h3
      exact e_slB hK ha hc hc2
    · cases h
  · -- Subscript
    split at h
    · rename_i hp
      split at h
      · rename_i oa ob h1 h2
        cases h
        obtain ⟨_, ha⟩ := od h1
        obtain ⟨_, hb⟩ := od h2
        exact e_ix hK ha hb hp
      · cases h
    · cases h
  · -- Call of a name
    split at h
    rotate_left
    · cases h
    rename_i hp
    rw [Bool.and_eq_true] at hp
    obtain ⟨g1, g2, g3⟩ := glob_ok o hp.1
    split at h
    · rename_i f hf
      split at h
      · rename_i hl
        obtain ⟨os, h1, h2⟩ := map_some h
        cases h2
        obtain ⟨ts, hops⟩ := ods h1
        have hm := List.mem_of_find?_eq_some hf
        have hn := List.find?_some hf
        have hn' := eq_of_beq hn
        obtain ⟨nm, ar, sem⟩ := f
        simp only at hn' hl
        subst hn'
        exact e_call o hm g1 hops hp.2 hl g2
      · cases h
    · split at h
      rotate_left
      · cases h
      rename_i hfree
      split at h
      · rename_i f e1 es hcb
        obtain ⟨os, h1, h2⟩ := map_some h
        cases h2
        obtain ⟨ts, hops⟩ := ods h1
        exact cb_ok o (lookS_ok hcb) (memS_ok hfree) g1 hops hp.2 (fun z => nomatch z) g3 g2
      · rename_i a tn p2 hcb
        split at h
        · rename_i hx
          simp only [Bool.and_eq_true] at hx
          obtain ⟨hx1, hx2, hx3⟩ := hx
          have hx1' := eq_of_beq hx1
          subst hx1'
          split at h
          · rename_i ty q hty hq
            cases h
            obtain ⟨_, ha⟩ := od hq
            obtain ⟨t1, t2, t3⟩ := glob_ok o hx2
            obtain ⟨i1, i2⟩ := isiTy_ok hty
            have pa := hp.2
            simp only [List.all_cons, Bool.and_eq_true] at pa
            exact e_isi o (memS_ok hfree) (by decide +kernel) g1 g3 g2 (memS_ok hx3) i1 t1 t3 t2 i2 ha pa.1
          · cases h
        · cases h
      · cases h
  · -- join
    split at h
    · rename_i hp
      simp only [Bool.and_eq_true] at hp
      obtain ⟨h1, h2, h3⟩ := hp
      have h1' := eq_of_beq h1
      subst h1'
      obtain ⟨q, h4, h5⟩ := map_some h
      cases h5
      obtain ⟨_, ha⟩ := od h4
      exact e_join hK ha h2 h3
    · cases h
  · -- index
    split at h
    · rename_i hp
      simp only [Bool.and_eq_true] at hp
      obtain ⟨h1, h2, h3⟩ := hp
      have h1' := eq_of_beq h1
      subst h1'
      split at h
      · rename_i i r h4 h5
        cases h
        exact e_index hK hu (slot_ok o h4) rfl (ih.e _ _ r.1 r.2 h5 F X k o) h2 h3
      · cases h
    · cases h
  · -- ListComp
    obtain ⟨mi, t, me, cond, fe, h1, h2, h3, h4, h5, h6, h7, rfl, rfl⟩ := ih.lc o h
    exact e_lc o h3 h2 h4 h1 h5 h6 h7
  · cases h
theorem step_t {n : Nat} (ih : CompOk T N n) (sc : Scope) (e : Expr) (m : M Bool) (h : compT T N (n + 1) sc e = some m) (F : Fx) (X : Cx) (k : Nat) (o : Xo F T N sc k X) : PT X e (rdT F m) := by
  have hK := o.hK
  have hu := o.hu
  have od : ∀ {e : Expr} {q : Opd}, opdOf N (compE T N n) sc e = some q → ∃ t, Op1 F X e q t := fun {e q} hq => opd_ok o (fun m fr hm => ih.e sc e m fr hm F X k o) hq
  simp only [compT] at h
  split at h
  · split at h
    · rename_i hp
      split at h
      · rename_i oa ob h1 h2
        cases h
        obtain ⟨_, ha⟩ := od h1
        obtain ⟨_, hb⟩ := od h2
        exact t_cmp hK hu ha hb hp
      · cases h
    · cases h
  · split at h
    · rename_i hp
      rw [Bool.and_eq_true] at hp
      split at h
      · rename_i oa ob oc h1 h2 h3
        cases h
        obtain ⟨_, ha⟩ := od h1
        obtain ⟨_, hb⟩ := od h2
        obtain ⟨_, hc⟩ := od h3
        exact t_chain hK hu ha hb hc hp.1 hp.2
      · cases h
    · cases h
  · rename_i op vs p
    cases e1 : mapO (compT T N n sc) vs with
    | none => rw [e1] at h; cases h
    | some ms =>
      rw [e1] at h
      exact (boolT_ok ((mapO_ok e1).2 _ fun e m _ he => ih.t sc e m he F X k o) h).pt
  · obtain ⟨q, h1, h2⟩ := map_some h
    cases h2
    exact t_not (ih.t _ _ _ h1 F X k o)
  · split at h
    · rename_i hk
      obtain ⟨q, h1, h2⟩ := map_some h
      cases h2
      obtain ⟨_, ha⟩ := od h1
      exact t_tru hK ha hk
    · cases h
theorem step_i {n : Nat} (ih : CompOk T N n) (sc : Scope) (tg e : Expr) (m : M (List D)) (h : compI T N (n + 1) sc tg e = some m) (F : Fx) (X : Cx) (k : Nat) (o : Xo F T N sc k X) : PI X tg e (rdI F m) := by
  have hK := o.hK
  have od : ∀ {e : Expr} {q : Opd}, opdOf N (compE T N n) sc e = some q → ∃ t, Op1 F X e q t := fun {e q} hq => opd_ok o (fun m fr hm => ih.e sc e m fr hm F X k o) hq
  have sq : ∀ {e : Expr} {m : M (List D)}, (compE T N n sc e).map (fun m => seqM m.1) = some m → PI X tg e (rdI F m) := fun {e m} hq => by
    obtain ⟨q, h1, h2⟩ := map_some hq
    cases h2
    exact i_seq hK (ih.e _ _ _ _ h1 F X k o)
  simp only [compI] at h
  split at h
  · split at h
    · rename_i hp
      simp only [Bool.and_eq_true] at hp
      obtain ⟨h1, h2, h3, h4⟩ := hp
      have h1' := eq_of_beq h1
      subst h1'
      obtain ⟨q, h5, h6⟩ := map_some h
      cases h6
      obtain ⟨_, ha⟩ := od h5
      exact i_range1 o (memS_ok h2) (glob_ok o h3).1 ha h4
    · exact sq h
  · split at h
    · rename_i hp
      simp only [Bool.and_eq_true] at hp
      obtain ⟨h1, h2, h3, h4, h5⟩ := hp
      have h1' := eq_of_beq h1
      subst h1'
      split at h
      · rename_i oa ob q1 q2
        cases h
        obtain ⟨_, ha⟩ := od q1
        obtain ⟨_, hb⟩ := od q2
        exact i_range2 o (memS_ok h2) (glob_ok o h3).1 ha hb h4 h5
      · cases h
    · split at h
      · rename_i hp
        simp only [Bool.and_eq_true] at hp
        obtain ⟨h1, h2, h3, h4, h5, h6⟩ := hp
        have h1' := eq_of_beq h1
        subst h1'
        split at h
        · rename_i oa ob q1 q2
          cases h
          cases tg <;> try cases h6
          exact i_zip o (memS_ok h2) (glob_ok o h3).1 (ih.e _ _ _ _ q1 F X k o) (ih.e _ _ _ _ q2 F X k o) h4 h5
        · cases h
      · exact sq h
  · split at h
    · rename_i hp
      simp only [Bool.and_eq_true] at hp
      obtain ⟨h1, h2, h3, h4, h5, h6⟩ := hp
      have h1' := eq_of_beq h1
      subst h1'
      split at h
      · rename_i oa ob oc q1 q2 q3
        cases h
        obtain ⟨_, ha⟩ := od q1
        obtain ⟨_, hb⟩ := od q2
        obtain ⟨_, hc⟩ := od q3
        exact i_range3 o (memS_ok h2) (glob_ok o h3).1 ha hb hc h4 h5 h6
      · cases h
    · exact sq h
  · exact sq h
theorem comp_ok (T : Tab) (N : List Str) : ∀ n, CompOk T N n
  | 0 => ⟨fun _ _ _ _ h => by simp [compE] at h, fun _ _ _ h => by simp [compT] at h, fun _ _ _ _ h => by simp [compI] at h⟩
  | n + 1 => ⟨step_e (comp_ok T N n), step_t (comp_ok T N n), step_i (comp_ok T N n)⟩
end
end Dv
namespace Dv
open PySem L2 PyProof.Rows
theorem swapQ_ok {ts vs : List Expr} {kt k2 : Nat} {pt pt2 : Pos} {env : PySem.Env} {r : Option (List Str)} (h : swapQ ts vs env.scope = some r) : swappedStores [.Tuple ts kt pt] (.Tuple vs k2 pt2) env = pure r := by
  unfold swapQ at h
  show (if swBad ts vs env.scope = true then pure none else if swStar vs = true then pure none
    else if ((swNm ts env.scope).length != ts.length || (swNm ts env.scope).eraseDups.length != (swNm ts env.scope).length) = true then pure none
    else if vs.all (foldedForSure 8) = true then pure none
    else if vs.all (constantsAlone 8) = true then (unsupported "assign.tuple-of-constant-expressions:order-of-the-stores" >>= fun _ => pure (some (swNm ts env.scope)) : Sem (Option (List Str)))
    else pure (some (swNm ts env.scope))) = _
  by_cases c1 : swBad ts vs env.scope = true
  · rw [if_pos c1] at h ⊢; cases h; rfl
  rw [if_neg c1] at h ⊢
  by_cases c2 : swStar vs = true
  · rw [if_pos c2] at h ⊢; cases h; rfl
  rw [if_neg c2] at h ⊢
  by_cases c3 : ((swNm ts env.scope).length != ts.length || (swNm ts env.scope).eraseDups.length != (swNm ts env.scope).length) = true
  · rw [if_pos c3] at h ⊢; cases h; rfl
  rw [if_neg c3] at h ⊢
  by_cases c4 : vs.all (foldedForSure 8) = true
  · rw [if_pos c4] at h ⊢; cases h; rfl
  rw [if_neg c4] at h ⊢
  by_cases c5 : vs.all (constantsAlone 8) = true
  · rw [if_pos c5] at h; cases h
  rw [if_neg c5] at h ⊢
  cases h; rfl
theorem swapQ_names {ts vs : List Expr} {sc : Scope} {ns : List Str} (h : swapQ ts vs sc = some (some ns)) : swNm ts sc = ns ∧ ns.length = ts.length := by
  unfold swapQ at h
  by_cases c1 : swBad ts vs sc = true
  · rw [if_pos c1] at h; cases h
  rw [if_neg c1] at h
  by_cases c2 : swStar vs = true
  · rw [if_pos c2] at h; cases h
  rw [if_neg c2] at h
  by_cases c3 : ((swNm ts sc).length != ts.length || (swNm ts sc).eraseDups.length != (swNm ts sc).length) = true
  · rw [if_pos c3] at h; cases h
  rw [if_neg c3] at h
  by_cases c4 : vs.all (foldedForSure 8) = true
  · rw [if_pos c4] at h; cases h
  rw [if_neg c4] at h
  by_cases c5 : vs.all (constantsAlone 8) = true
  · rw [if_pos c5] at h; cases h
  rw [if_neg c5] at h
  cases h
  simp only [Bool.or_eq_true, bne_iff_ne, ne_eq, not_or, Decidable.not_not] at c3
  exact ⟨rfl, c3.1⟩
theorem swapQ2 {x y : Str} {px py : Pos} {vs : List Expr} {sc : Scope} {ns : List Str} (h : swapQ [.Name x px, .Name y py] vs sc = some (some ns)) : ns = [x, y] ∧ sc.names.lookup x = some .local ∧ sc.names.lookup y = some .local := by
  obtain ⟨e, l⟩ := swapQ_names h
  unfold swNm at e
  simp only [List.filterMap_cons, List.filterMap_nil] at e
  cases c1 : (sc.names.lookup x == some .local && px.line == (Option.map (fun e : Expr => e.pos.line) [Expr.Name x px, .Name y py].head?).getD 0) with
  | false =>
    rw [c1] at e
    simp only [Bool.false_eq_true, if_false] at e
    rw [← e] at l
    split at l <;> simp at l
  | true =>
    cases c2 : (sc.names.lookup y == some .local && py.line == (Option.map (fun e : Expr => e.pos.line) [Expr.Name x px, .Name y py].head?).getD 0) with
    | false =>
      rw [c1, c2] at e
      simp only [Bool.false_eq_true, if_false, if_true] at e
      rw [← e] at l
      simp at l
    | true =>
      rw [c1, c2] at e
      simp only [if_true] at e
      rw [Bool.and_eq_true] at c1 c2
      exact ⟨e.symm, eq_of_beq c1.1, eq_of_beq c2.1⟩
theorem swapQ3 {x y z : Str} {px py pz : Pos} {vs : List Expr} {sc : Scope} {ns : List Str} (h : swapQ [.Name x px, .Name y py, .Name z pz] vs sc = some (some ns)) : ns = [x, y, z] ∧ sc.names.lookup x = some .local ∧ sc.names.lookup y = some .local ∧ sc.names.lookup z = some .local := by
  obtain ⟨e, l⟩ := swapQ_names h
  unfold swNm at e
  simp only [List.filterMap_cons, List.filterMap_nil] at e
  generalize (Option.map (fun e : Expr => e.pos.line) [Expr.Name x px, .Name y py, .Name z pz].head?).getD 0 = ln at e
  cases c1 : (sc.names.lookup x == some .local && px.line == ln) with
  | false =>
    rw [c1] at e
    simp only [Bool.false_eq_true, if_false] at e
    rw [← e] at l
    split at l <;> split at l <;> simp at l
  | true =>
    cases c2 : (sc.names.lookup y == some .local && py.line == ln) with
    | false =>
      rw [c1, c2] at e
      simp only [Bool.false_eq_true, if_false, if_true] at e
      rw [← e] at l
      split at l <;> simp at l
    | true =>
      cases c3 : (sc.names.lookup z == some .local && pz.line == ln) with
      | false =>
        rw [c1, c2, c3] at e
        simp only [Bool.false_eq_true, if_false, if_true] at e
        rw [← e] at l
        simp at l
      | true =>
        rw [c1, c2, c3] at e
        simp only [if_true] at e
        rw [Bool.and_eq_true] at c1 c2 c3
        exact ⟨e.symm, eq_of_beq c1.1, eq_of_beq c2.1, eq_of_beq c3.1⟩
section
variable {F : Fx} {T : Tab} {N : List Str} {sc : Scope} {k : Nat} {X : Cx} {e a b tg : Expr} {pos : Pos}
/-- a def's own level -/
structure Xd (F : Fx) (T : Tab) (N : List Str) (sc : Scope) (k : Nat) (X : Cx) : Prop where
  o : Xo F T N sc k X
  os : ∀ B, Xo (F.asd B) T N sc k X
  fn : ∀ x, X.fn x = true
  own : PassesOwn (model X.prog X.w) X.A X.env X.xe
theorem Xd.loc (d : Xd F T N sc k X) : ∀ x, (sc.names.lookup x = some .local ∨ sc.names.lookup x = some .cell) → Loc X.env.scope x ∧ (X.fn x = true ∨ X.env.scope.names.lookup x = some .local) := fun x h => by
  refine ⟨?_, .inl (d.fn x)⟩
  rw [d.o.hs]
  rcases h with h | h
  · exact .inl h
  · exact .inr h
theorem locIx_ok {x : Str} {i : Nat} (h : locIx N sc x = some i) : N[i]? = some x ∧ (sc.names.lookup x = some .local ∨ sc.names.lookup x = some .cell) := by
  unfold locIx at h
  split at h
  · rename_i hl
    exact ⟨ix0 h, .inl hl⟩
  · rename_i hl
    exact ⟨ix0 h, .inr hl⟩
  · cases h
theorem lcSwap_ok {elt tg iter : Expr} {ifs : List Expr} {scope : Scope} {lpos p' : Pos} {x : Str} {l : Nat} {env : PySem.Env} (hs : env.scope = sc) (h : lcSwap sc x p' (.ListComp elt [⟨tg, iter, ifs, 0⟩] scope lpos) = true) : sc.names.lookup x = some .local ∧ swapsWith (.ListComp elt [⟨tg, iter, ifs, 0⟩] scope lpos) (some (.Name x p')) l env = pure true := by
  simp only [lcSwap, Bool.and_eq_true] at h
  obtain ⟨h1, h2, h3, h4⟩ := h
  have hl : sc.names.lookup x = some .local := by
    split at h2
    · rename_i z; exact z
    · cases h2
  have hk : sc.kind = .function := by
    split at h1
    · rename_i z; exact z
    · cases h1
  exact ⟨hl, sw_true (by rw [hs]; exact hk) (by rw [hs]; exact hl) h3 (by simpa using h4)⟩
theorem s_asgLc {n : Nat} {i : Nat} {x : Str} {p' : Pos} {elt iter : Expr} {ifs : List Expr} {scope : Scope} {lpos : Pos} {r : M D × Bool} (d : Xd F T N sc k X) (hi : N[i]? = some x) (h : compE T N n sc (.ListComp elt [⟨tg, iter, ifs, 0⟩] scope lpos) = some r) (hsw : lcSwap sc x p' (.ListComp elt [⟨tg, iter, ifs, 0⟩] scope lpos) = true) :
    PS X (.Assign [.Name x p'] (.ListComp elt [⟨tg, iter, ifs, 0⟩] scope lpos) pos) (rdS F (asgS i r.1 r.2)) := by
  cases n with
  | zero => simp [compE] at h
  | succ n =>
    obtain ⟨r1, r2⟩ := r
    simp only [compE] at h
    obtain ⟨mi, t, me, cond, fe, h1, h2, h3, h4, h5, h6, h7, rfl, rfl⟩ := (comp_ok T N n).lc d.o h
    obtain ⟨hl, sw⟩ := lcSwap_ok d.o.hs hsw
    have nd : X.N.Nodup := by rw [d.o.hN]; exact d.o.nd
    refine psI (ps_setLc (g := gOf X.K t) (tt := fun σ H Q => ∃ B, rdT (F.in' B) cond σ H Q) (te := fun σ H Q => ∃ B, rdE (F.in' B) me fe σ H Q) d.o.calm nd (by rw [d.o.hN]; exact hi) (by rw [d.o.hs]; exact hl) sw h3 h2 h5 (fun s H C cl fp => ⟨fun pins s' σ H' Q I ⟨B, q⟩ => (h6 s H C cl fp B).run pins s' σ H' Q I q⟩) (fun s H C cl fp => ⟨fun pins s' σ H' Q I ⟨B, q⟩ => (h7 s H C cl fp B).run pins s' σ H' Q I q⟩) ?_) fun D σ H ⟨G, ρ, O, E, q⟩ => ?_
    · intro x
      cases iter <;> first | rfl | cases h1
    · rw [d.o.hK]
      show tLc _ _ _ _ _ σ H (fun x H1 => gName i x σ H1 D.nx)
      refine lc_rd h4 ?_
      refine rdE_stmt E q fun v d ρ1 G1 H1 O1 E1 s1 r1 q1 => ?_
      obtain ⟨O', E'⟩ := E1.put i r1
      exact q1 _ G1 H1 O' E' srfl
theorem ss_blk {ss : List Stmt} {ms : List S} (h : PySem.Paired (fun st m => PS X st (rdS F m)) ss ms) : PSs X ss (rdS F (blkS ms)) := by
  induction h with
  | nil => exact ss_nil
  | cons p q ih =>
    cases q with
    | nil => exact ss_one p
    | cons p2 q2 => exact ss_cons p ih
theorem lc_gen {x : Str} {p' : Pos} (h : lcSwap sc x p' e = true) : ∃ elt tg iter ifs scope lpos, e = .ListComp elt [⟨tg, iter, ifs, 0⟩] scope lpos := by
  unfold lcSwap at h
  split at h
  · exact ⟨_, _, _, _, _, _, rfl⟩
  · cases h
theorem step_s (n : Nat) (ih : ∀ st s, compS T N sc n st = some s → ∀ (F : Fx) (X : Cx) (k : Nat), Xd F T N sc k X → PS X st (rdS F s)) (st : Stmt) (s : S) (h : compS T N sc (n + 1) st = some s) (F : Fx) (X : Cx) (k : Nat) (d : Xd F T N sc k X) : PS X st (rdS F s) := by
  have o := d.o
  have hK := o.hK
  have hu := o.hu
  have nd : X.N.Nodup := by rw [o.hN]; exact o.nd
  have ce : ∀ {e : Expr} {r : M D × Bool}, compE T N n sc e = some r → PE X e (rdE F r.1 r.2) := fun {e r} hq => (comp_ok T N n).e sc e r.1 r.2 hq F X k o
  have ceB : ∀ {e : Expr} {r : M D × Bool}, compE T N n sc e = some r → ∀ B, PE X e (rdE (F.asd B) r.1 r.2) := fun {e r} hq B => (comp_ok T N n).e sc e r.1 r.2 hq _ X k (d.os B)
  have ct : ∀ {e : Expr} {m : M Bool}, compT T N n sc e = some m → PT X e (rdT F m) := fun {e m} hq => (comp_ok T N n).t sc e m hq F X k o
  have ci : ∀ {tg e : Expr} {m : M (List D)}, compI T N n sc tg e = some m → PI X tg e (rdI F m) := fun {tg e m} hq => (comp_ok T N n).i sc tg e m hq F X k o
  have cg : ∀ {e : Expr} {t : Tg}, compTg N sc n e = some t → PG X e (gOf X.K t) := fun {e t} hq => tg_ok o.hN o.nd o.calm d.loc n e t hq
  have od : ∀ {e : Expr} {q : Opd}, opdOf N (compE T N n) sc e = some q → ∃ t, Op1 F X e q t := fun {e q} hq => opd_ok o (fun m fr hm => ce (r := (m, fr)) hm) hq
  have blk : ∀ {ss : List Stmt} {ms : List S}, mapO (compS T N sc n) ss = some ms → PSs X ss (rdS F (blkS ms)) := fun {ss ms} hq => ss_blk ((mapO_ok hq).2 _ fun st m _ he => ih st m he F X k d)
  have sw : ∀ {ts vs : List Expr} {kt k2 : Nat} {pt pt2 : Pos} {r : Option (List Str)}, swapQ ts vs sc = some r → swappedStores [.Tuple ts kt pt] (.Tuple vs k2 pt2) X.env = pure r := fun hq => swapQ_ok (by rw [o.hs]; exact hq)
  have un : ∀ {es : List Expr} {kt : Nat} {pt : Pos} {e : Expr} {t : Tg} {r : M D × Bool} {pos : Pos}, compTg N sc n (.Tuple es kt pt) = some t → compE T N n sc e = some r → swappedStores [.Tuple es kt pt] e X.env = pure none → PS X (.Assign [.Tuple es kt pt] e pos) (rdS F (untS t r.1)) := fun {es kt pt e t r pos} h1 h2 h3 => by
    refine s_unt hK (cg h1) (ce h2) swap_tup h3 ?_
    cases n with
    | zero => simp [compTg] at h1
    | succ n =>
      simp only [compTg] at h1
      split at h1
      · rename_i hp
        unfold tgPlain
        simpa using hp
      · cases h1
  simp only [compS] at h
  split at h
  · cases h; exact s_retN
  · split at h
    · split at h
      · rename_i i hi
        cases h
        exact s_retV (slot_ok o hi)
      · obtain ⟨r, h1, h2⟩ := map_some h
        cases h2
        exact s_ret (ce h1)
    · obtain ⟨r, h1, h2⟩ := map_some h
      cases h2
      exact s_ret (ce h1)
  · rename_i x p' e p2
    split at h
    · rename_i i r h1 h2
      obtain ⟨l1, l2⟩ := locIx_ok h1
      obtain ⟨g1, g2⟩ := d.loc _ l2
      split at h
      · cases h
      · rename_i hc
        cases h
        cases q : isComp e with
        | false => exact s_asg nd (by rw [o.hN]; exact l1) g1 (ce h2) (swap_nc q) g2
        | true =>
          have hsw : lcSwap sc x p' e = true := by
            rw [q] at hc
            simpa using hc
          obtain ⟨elt, tg, iter, ifs, scope, lpos, rfl⟩ := lc_gen hsw
          exact s_asgLc d l1 h2 hsw
    · cases h
  · -- two
    split at h
    · rename_i ns hq
      obtain ⟨rfl, hx, hy⟩ := swapQ2 hq
      split at h
      · rename_i hp
        rw [Bool.and_eq_true] at hp
        split at h
        · rename_i i j p q h1 h2 h3 h4
          split at h
          · cases h
          · rename_i hij
            cases h
            exact s_par2 o (by rw [o.hN]; exact ix0 h1) (by rw [o.hN]; exact ix0 h2) hij (by rw [o.hs]; exact hx) (by rw [o.hs]; exact hy) (ceB h3) (ceB h4) hp.1 hp.2 (sw hq)
        · cases h
      · cases h
    · rename_i hq
      split at h
      · rename_i t r h1 h2
        cases h
        exact un h1 h2 (sw hq)
      · cases h
    · cases h
  · -- three
    split at h
    · rename_i ns hq
      obtain ⟨rfl, hx, hy, hz⟩ := swapQ3 hq
      split at h
      · rename_i hp
        simp only [Bool.and_eq_true] at hp
        split at h
        · rename_i i j l p q r h1 h2 h3 h4 h5 h6
          split at h
          · cases h
          · rename_i hij
            simp only [not_or] at hij
            cases h
            exact s_par3 o (by rw [o.hN]; exact ix0 h1) (by rw [o.hN]; exact ix0 h2) (by rw [o.hN]; exact ix0 h3) hij.1 hij.2.1 hij.2.2 (by rw [o.hs]; exact hx) (by rw [o.hs]; exact hy) (by rw [o.hs]; exact hz) (ceB h4) (ceB h5) (ceB h6) hp.1 hp.2.1 hp.2.2 (sw hq)
        · cases h
      · cases h
    · rename_i hq
      split at h
      · rename_i t r h1 h2
        cases h
        exact un h1 h2 (sw hq)
      · cases h
    · cases h
  · split at h
    · cases h
    · rename_i hp
      split at h
      · rename_i t r h1 h2
        cases h
        exact un h1 h2 (stores_nt (by simpa using hp))
      · cases h
  · -- x[i] = e
    split at h
    · rename_i hp
      split at h
      · rename_i j oi r h1 h2 h3
        cases h
        obtain ⟨_, hi⟩ := od h2
        exact s_set (slot_ok o h1) hi (ce h3) hp
      · cases h
    · cases h
  · -- aug
    split at h
    · rename_i i f q h1 h2 h3
      cases h
      obtain ⟨l1, l2⟩ := locIx_ok h1
      obtain ⟨g1, g2⟩ := d.loc _ l2
      obtain ⟨_, hi⟩ := od h3
      exact s_aug nd (by rw [o.hN]; exact l1) g1 g2 h2 hi
    · cases h
  · cases h; exact s_doc
  · split at h
    · rename_i hp
      simp only [Bool.and_eq_true] at hp
      obtain ⟨hm, h1, h2⟩ := hp
      have hm' := eq_of_beq hm
      subst hm'
      split at h
      · rename_i i r h3 h4
        cases h
        exact s_app hK (slot_ok o h3) rfl (ce h4) h1 h2
      · cases h
    · cases h
  · split at h
    · rename_i t s1 s2 h1 h2 h3
      cases h
      exact s_if (ct h1) (blk h2) (blk h3)
    · cases h
  · split at h
    · rename_i hp
      split at h
      · rename_i mi t s1 h1 h2 h3
        cases h
        exact s_for hK d.own o.calm (ci h1) (cg h2) (blk h3) hp
      · cases h
    · cases h
  · split at h
    · rename_i t s1 h1 h2
      cases h
      exact s_while d.own (ct h1) (blk h2)
    · cases h
  · cases h; exact s_pass
  · cases h; exact s_break
  · cases h; exact s_cont
  · cases h
theorem compS_ok (T : Tab) (N : List Str) (sc : Scope) : ∀ (n : Nat) st s, compS T N sc n st = some s → ∀ (F : Fx) (X : Cx) (k : Nat), Xd F T N sc k X → PS X st (rdS F s)
  | 0 => fun _ _ h => by simp [compS] at h
  | n + 1 => step_s n (compS_ok T N sc n)
theorem compB_ok {n : Nat} {ss : List Stmt} {ms : List S} (h : mapO (compS T N sc n) ss = some ms) (d : Xd F T N sc k X) : PSs X ss (rdS F (blkS ms)) := ss_blk ((mapO_ok h).2 _ fun st m _ he => compS_ok T N sc n st m he F X k d)
end
end Dv
namespace Dv
open PySem PySem.Spec PyProof.Rows L2
/-- a def's meaning, by its body's -/
def runB (n : Nat) (s : S) : Fn := fun args => match s (args.map Sl.val ++ List.replicate (n - args.length) .no) with
  | .ok .nx _ => .ok .non
  | .ok (.ret d) _ => .ok d
  | .exc x _ => .exc x
  | _ => .bad
def compB (T : Tab) (N : List Str) (sc : Scope) (n : Nat) (ss : List Stmt) : Option S := (mapO (compS T N sc n) ss).map blkS
section
variable {P : Program} {w : World} {K : Frg} {mg : Str → Option Value} {base : Heap} {XR : XRel} {T : Tab} {N ps : List Str} {k : Nat}
theorem er_start {G H : Hp} {vs : List V} {ds : List D} {N : List Str} {W : WX} {XR : XRel} (s : Same G H) (r : RpAll K G vs ds) : Er ⟨K, G, H, fun _ => none, W, XR⟩ G H (start N vs) (ds.map Sl.val ++ List.replicate (N.length - ds.length) .no) (fun _ => []) where
  len := by unfold L2.start; simp [r.length]
  g0 := srfl
  h0 := srfl
  gh := s
  new := fun a o e n => by rw [show G a = none from n] at e; cases e
  val := fun i d q => by
    unfold L2.start
    by_cases h : i < ds.length
    · rw [List.getElem?_append_left (by simpa using h), List.getElem?_map] at q
      cases e : ds[i]? with
      | none => rw [e] at q; cases q
      | some d' =>
        rw [e] at q
        cases q
        obtain ⟨v, h1, h2⟩ := r.get e
        refine ⟨v, ?_, h2⟩
        rw [List.getElem?_append_left (by rw [List.length_map, r.length]; exact h), List.getElem?_map, h1]
        rfl
    · rw [List.getElem?_append_right (by simpa using h), List.getElem?_replicate] at q
      split at q <;> cases q
  own := fun i d q => by
    exfalso
    by_cases h : i < ds.length
    · rw [List.getElem?_append_left (by simpa using h), List.getElem?_map] at q
      cases e : ds[i]? with
      | none => rw [e] at q; cases q
      | some d' => rw [e] at q; cases q
    · rw [List.getElem?_append_right (by simpa using h), List.getElem?_replicate] at q
      split at q <;> cases q
  dis := fun i j d e ne q1 q2 a ha => by cases ha
  held := fun a o e => by cases e
/-- what a table needs of a module -/
structure TabOk (P : Program) (w : World) (K : Frg) (mg : Str → Option Value) (base : Heap) (XR : XRel) (T : Tab) (k : Nat) : Prop where
  fns : ∀ e ∈ T.fns, FnIn P w K mg base XR k e
  cons : ∀ q ∈ T.cons, ∃ u v, mg q.1 = some u ∧ RelV v u ∧ ∀ H, Rp K H v q.2
  free : ∀ x ∈ T.free, mg x = none
theorem TabOk.mono {j : Nat} (h : TabOk P w K mg base XR T j) (hk : j ≤ k) : TabOk P w K mg base XR T k := ⟨fun e he => (h.fns e he).mono hk, h.cons, h.free⟩
theorem body_rd {G H : Hp} {vs : List V} {ds : List D} {Q : VK} {E : XK} {s : S} (same : Same G H) (r : RpAll K G vs ds)
    (h : match runB N.length s ds with
      | .ok d => ∀ v G' H', Grow G H G' H' → RvF K H G' H' v d → Q v H'
      | .exc x => ∀ c dx H', Same H H' → XR x c dx H' → E c dx H'
      | .bad => False) : rdS ⟨K, G, H, fun _ => none, fun c d _ H => E c d H, XR⟩ s { nx := fun _ H' => Q .non H', rt := Q } (start N vs) H := by
  refine ⟨G, _, _, er_start same r, ?_⟩
  unfold runB at h
  cases e : s (ds.map Sl.val ++ List.replicate (N.length - ds.length) .no) with
  | bad => rw [e] at h; exact h
  | exc x ρ =>
    rw [e] at h
    exact fun σ c dx G' H' O' E' s' xr => h c dx H' E'.h0 xr
  | ok f ρ =>
    rw [e] at h
    cases f with
    | nx => exact fun σ' G' H' O' E' s' => h .non G' H' ⟨E'.g0, E'.h0, E'.gh, E'.new⟩ (.inr ⟨rfl, .non⟩)
    | ret d =>
      refine fun v σ' G' H' O' E' s' r' => h v G' H' ⟨E'.g0, E'.h0, E'.gh, E'.new⟩ ?_
      rcases r' with ⟨p, o, _, rfl, h1, h2, h3, _, _, h4⟩ | ⟨hm, r'⟩
      · exact .inl ⟨p, o, rfl, h3, h1, h2, h4⟩
      · exact .inr ⟨hm rfl, r'⟩
    | bk => exact h.elim
    | ct => exact h.elim
/-- a def keeps its promise -/
theorem fn_ok {x qual : Str} {params : Arguments} {body : List Stmt} {scope : Scope} {dvs : List V} {kws : List (Str × V)} {f : Addr} {fd : FuncData} {n : Nat} {s : S} (FD : FunD K x qual params body scope dvs kws f fd) (S : FnScope N ps scope) (tk : TabOk P w K mg base XR T k) (h : compB T N scope n body = some s) :
    FnOk P w K mg base (L2.CX P w) (k + 1) f fd ps (spF K XR ps.length (runB N.length s)) := by
  refine FD.ok S (fun vs H Q E h => spF_len h) fun cdv A outer s0 H vs Q E hr hsp => ?_
  obtain ⟨G, ds, same, r, hl, hq⟩ := hsp
  obtain ⟨ms, h1, h2⟩ := map_some h
  subst h2
  let F : Fx := ⟨K, G, H, fun _ => none, fun c d _ H => E c d H, XR⟩
  have pass : ∀ σ, PassesAt (L2.CX P w) (cxOf (L2.CX P w) P w K mg base N qual scope f cdv A outer s0 H E) σ (WE F.W σ) := fun σ => passAt (takes_of rfl rfl rfl rfl) σ
  have o : ∀ B, Xo (F.asd B) T N scope k (cxOf (L2.CX P w) P w K mg base N qual scope f cdv A outer s0 H E) := fun B => ⟨rfl, rfl, rfl, S.nd, rfl, hr, tk.fns, tk.cons, tk.free, pass⟩
  have d : Xd F T N scope k (cxOf (L2.CX P w) P w K mg base N qual scope f cdv A outer s0 H E) := ⟨o _, o, fun _ => rfl, passes_of rfl⟩
  exact ⟨_, compB_ok h1 d, body_rd same r hq⟩
end
end Dv
namespace Dv
open PySem PySem.Spec PyProof.Rows L2
/-- a def of the module: its name, its slots' names (the parameters first), how many parameters, its text -/
structure Df where
  name : Str
  N : List Str
  ar : Nat
  st : Stmt
def Df.d (q : Df) : He.DefD := ⟨(q.name, none), q.name, q.name, defArgs q.st, defBody q.st, defScope q.st, [], []⟩
/-- what a def does, by what the defs do that it may call -/
def semOf (T : Tab) (q : Df) : Fn := match compB T q.N (defScope q.st) 60 (defBody q.st) with
  | some s => runB q.N.length s
  | none => fun _ => .bad
def extT (T : Tab) (q : Df) : Tab := { T with fns := ⟨q.name, q.ar, semOf T q⟩ :: T.fns }
def mkTab : Tab → List Df → Tab
  | T, [] => T
  | T, q :: qs => mkTab (extT T q) qs
section
variable {P : Program} {w : World} {K : Frg} {mg : Str → Option Value} {base : Heap} {XR : XRel} {T : Tab} {k : Nat}
structure DfOk (K : Frg) (mg : Str → Option Value) (q : Df) : Prop where
  ex : ∃ f fd, mg q.name = some (.ref f) ∧ FunD K q.name q.name (defArgs q.st) (defBody q.st) (defScope q.st) [] [] f fd ∧ Binds K fd (q.N.take q.ar) []
  sc : FnScope q.N (q.N.take q.ar) (defScope q.st)
  len : (q.N.take q.ar).length = q.ar
theorem sem_ok {q : Df} {f : Addr} {fd : FuncData} (FD : FunD K q.name q.name (defArgs q.st) (defBody q.st) (defScope q.st) [] [] f fd) (S : FnScope q.N (q.N.take q.ar) (defScope q.st)) (hl : (q.N.take q.ar).length = q.ar) (tk : TabOk P w K mg base XR T k) :
    FnOk P w K mg base (L2.CX P w) (k + 1) f fd (q.N.take q.ar) (spF K XR q.ar (semOf T q)) := by
  unfold semOf
  cases h : compB T q.N (defScope q.st) 60 (defBody q.st) with
  | some s =>
    have := fn_ok FD S tk h
    rw [hl] at this
    exact this
  | none =>
    refine FD.ok S (fun vs H Q E h => (spF_len h).trans hl.symm) fun cdv A outer s0 H vs Q E hr hsp => ?_
    obtain ⟨G, ds, same, r, hl, hq⟩ := hsp
    exact hq.elim
theorem ext_ok {q : Df} (hq : DfOk K mg q) (tk : TabOk P w K mg base XR T k) : TabOk P w K mg base XR (extT T q) (k + 1) := by
  refine ⟨fun e he => ?_, tk.cons, tk.free⟩
  rcases List.mem_cons.mp he with rfl | he
  · obtain ⟨f, fd, h1, h2, h3⟩ := hq.ex
    exact ⟨f, fd, _, h1, h2.kp, h3, sem_ok h2 hq.sc hq.len tk⟩
  · exact (tk.fns e he).mono (Nat.le_succ k)
theorem tab_ok : ∀ (qs : List Df) (T : Tab) (k : Nat), TabOk P w K mg base XR T k → (∀ q ∈ qs, DfOk K mg q) → TabOk P w K mg base XR (mkTab T qs) (k + qs.length)
  | [], T, k, h, _ => h
  | q :: qs, T, k, h, hq => by
    have := tab_ok qs (extT T q) (k + 1) (ext_ok (hq q List.mem_cons_self) h) fun q' h' => hq q' (List.mem_cons_of_mem _ h')
    rw [List.length_cons, show k + (qs.length + 1) = k + 1 + qs.length by omega]
    exact this
end
/-- no exception of one's own -/
def noXR : XRel := fun _ _ _ _ => False
theorem law_sp {K : Frg} {XR : XRel} {s : Fn} {n : Nat} (hs : ∀ ns : List Int, ns.length ≤ n → (∀ z ∈ ns, Builtin.Int.intBits z ≤ 1048576) → s [.scr ns] = .ok (.bl true)) (H : Hp) (a : Addr) (ns : List Int) (hl : ns.length ≤ n) (hb : ∀ z ∈ ns, Builtin.Int.intBits z ≤ 1048576) (hS : SqL K H a (ns.map V.int)) :
    spF K XR 1 s [.ref a] H (fun v _ => v = .bl true) fun _ _ _ => False := by
  refine ⟨H, [.scr ns], srfl, .cons (.scr hS) .nil, rfl, ?_⟩
  rw [hs ns hl hb]
  intro v G' H' g r
  rcases r with ⟨p, o, rfl, h1, h2, h3, h4⟩ | ⟨_, r⟩
  · cases h4
  · cases r; rfl
theorem law_cx {P : Program} {w : World} (H : Hp) (s : Shared) (e : Value) (s' : Shared) (h : L2.CX P w [] H s (fun _ _ _ => False) e s') : False := by
  obtain ⟨_, _, _, _, _, _, _, _, _, _, _, _, z⟩ := h
  exact z.elim
/-- a law's end, the exceptions' wish by the world -/
theorem walk_ofW {l : PySem.W.OpenLaw} {n k : Nat} {q : Program} {loose : List Str} {XP : (Str → Option Value) → Heap → Prop} {YP : World → Heap → Prop} {d : DefRec} {x : Str} (hn : l.most = some n) (hn2 : n ≤ sizeLine) (hdf : d.params.defaults = []) (hr : Room k callerA)
    (FF : ∀ (w : World) (mg : Str → Option Value) (fa : Addr) (h : Heap), YP w h → h.Ns mainGlobals mg → mg d.name = some (.ref fa) → ∃ (K : Frg) (fd : FuncData) (s : Fn), K.In h ∧ (∀ (s : Shared) (u : Value), BindsTo s fd ⟨[u], []⟩ [(x, u)]) ∧
        (∀ ns : List Int, ns.length ≤ n → (∀ z ∈ ns, Builtin.Int.intBits z ≤ 1048576) → s [.scr ns] = .ok (.bl true)) ∧ ∀ base : Heap, K.In base → base.Ns mainGlobals mg → FnOk l.prog w K mg base (L2.CX l.prog w) k fa fd [x] (spF K noXR 1 s)) :
    PySem.W.WalkO q loose XP YP l.row.toRowW d [] (fun f vs => PySem.call f vs) := by
  refine Att.attach_callB hn hdf fun w s0 s1 mg mb fa o pm cd doc a vs ns Gd Yh h1 h2 h3 h4 h5 h6 h7 hb7 h8 => ?_
  obtain ⟨K, fd, s, KX, hbn, hsp, hF⟩ := FF w mg fa _ Yh Gd.T.g h4
  refine L2.law_call KX Gd.T.g Gd.T.b Gd.T.builtins Gd.T.nolimit h8 h5 h6 (Nat.le_trans h7 hn2) hr hF hbn (fun H _ hS => law_sp hsp H a ns h7 hb7 hS) ?_
  exact fun H e s2 => law_cx H s1 e s2
end Dv
namespace Dv
open PySem PyProof.Rows L2
/-! ### bits -/
theorem xor_and_two : ∀ n x y : Nat, x ≤ n → (x ^^^ y) + 2 * (x &&& y) = x + y
  | 0, x, y, h => by
    have : x = 0 := by omega
    subst this
    simp
  | n + 1, x, y, h => by
    by_cases hx : x = 0
    · subst hx; simp
    have ih := xor_and_two n (x / 2) (y / 2) (by omega)
    have a1 : (x ^^^ y) / 2 = (x / 2) ^^^ (y / 2) := Nat.xor_div_two
    have a2 : (x &&& y) / 2 = (x / 2) &&& (y / 2) := Nat.and_div_two
    have a3 : (x ^^^ y) % 2 = (x + y) % 2 := by
      have h1 : (x ^^^ y) % 2 = (x % 2) ^^^ (y % 2) := Nat.xor_mod_two_pow (n := 1)
      rw [h1, Nat.add_mod]
      rcases Nat.mod_two_eq_zero_or_one x with e | e <;> rcases Nat.mod_two_eq_zero_or_one y with e' | e' <;> rw [e, e'] <;> rfl
    have a4 : (x &&& y) % 2 = (x % 2) * (y % 2) := by
      have h1 : (x &&& y) % 2 = (x % 2) &&& (y % 2) := Nat.and_mod_two_pow (n := 1)
      rw [h1]
      rcases Nat.mod_two_eq_zero_or_one x with e | e <;> rcases Nat.mod_two_eq_zero_or_one y with e' | e' <;> rw [e, e'] <;> rfl
    have b1 : (x ^^^ y) = 2 * ((x / 2) ^^^ (y / 2)) + (x + y) % 2 := by rw [← a1, ← a3]; omega
    have b2 : (x &&& y) = 2 * ((x / 2) &&& (y / 2)) + (x % 2) * (y % 2) := by rw [← a2, ← a4]; omega
    rw [b1, b2]
    rcases Nat.mod_two_eq_zero_or_one x with e | e <;> rcases Nat.mod_two_eq_zero_or_one y with e' | e' <;> rw [e, e'] <;> omega
theorem bxor_nat (a b : Nat) : Builtin.bitXor (a : Int) (b : Int) = ((a ^^^ b : Nat) : Int) := by
  rw [bitXor_and, PySem.W.os_band]
  have := xor_and_two a a b (Nat.le_refl _)
  omega
theorem band_nat (a b : Nat) : Builtin.bitAnd (a : Int) (b : Int) = ((a &&& b : Nat) : Int) := PySem.W.os_band a b
/-! ### loops -/
theorem for_list {t : Tg} {s : S} (Inv : Nat → En → Prop) : ∀ (ds : List D) (i0 : Nat) (ρ : En), Inv i0 ρ →
    (∀ i d ρ, ds[i]? = some d → Inv (i0 + i) ρ → ∃ ρ1 ρ2, bindT t d ρ = some ρ1 ∧ (s ρ1 = .ok .nx ρ2 ∨ s ρ1 = .ok .ct ρ2) ∧ Inv (i0 + i + 1) ρ2) → ∃ ρ', forL t s ds ρ = .ok .nx ρ' ∧ Inv (i0 + ds.length) ρ'
  | [], i0, ρ, h0, _ => ⟨ρ, rfl, h0⟩
  | d :: ds, i0, ρ, h0, hs => by
    obtain ⟨ρ1, ρ2, h1, h2, h3⟩ := hs 0 d ρ rfl h0
    obtain ⟨ρ', h4, h5⟩ := for_list (t := t) (s := s) Inv ds (i0 + 1) ρ2 h3 fun i d ρ hd hi => by
      have := hs (i + 1) d ρ (by simpa using hd) (by rw [show i0 + (i + 1) = i0 + 1 + i by omega]; exact hi)
      rw [show i0 + (i + 1) + 1 = i0 + 1 + i + 1 by omega] at this
      exact this
    refine ⟨ρ', ?_, by rw [List.length_cons, show i0 + (ds.length + 1) = i0 + 1 + ds.length by omega]; exact h5⟩
    unfold forL
    rw [h1]
    rcases h2 with h2 | h2 <;> (simp only [h2]; exact h4)
theorem for_range {v : Nat} {s : S} (Inv : Nat → En → Prop) {lo c : Int} {n : Nat} {ρ : En} (h0 : Inv 0 ρ) (hs : ∀ i ρ, i < n → Inv i ρ → ∃ ρ2, (s (ρ.set v (.val (.int (lo + i * c)))) = .ok .nx ρ2 ∨ s (ρ.set v (.val (.int (lo + i * c)))) = .ok .ct ρ2) ∧ Inv (i + 1) ρ2) :
    ∃ ρ', forL (.nm v) s (rangeL lo n c) ρ = .ok .nx ρ' ∧ Inv n ρ' := by
  obtain ⟨ρ', h1, h2⟩ := for_list (t := .nm v) (s := s) Inv (rangeL lo n c) 0 ρ h0 fun i d ρ hd hi => by
    have hl : i < n := by
      have := (List.getElem?_eq_some_iff.mp hd).1
      simpa [rangeL] using this
    have : d = .int (lo + i * c) := by
      unfold rangeL at hd
      rw [List.getElem?_map, List.getElem?_range hl] at hd
      exact (Option.some.inj hd).symm
    subst this
    rw [Nat.zero_add] at hi ⊢
    obtain ⟨ρ2, a, b⟩ := hs i ρ hl hi
    exact ⟨_, ρ2, rfl, a, b⟩
  refine ⟨ρ', h1, ?_⟩
  have : (rangeL lo n c).length = n := by simp [rangeL]
  rw [this, Nat.zero_add] at h2
  exact h2
/-- a while loop: m a measure that sinks -/
theorem while_ok {c : M Bool} {s : S} (Inv : Nat → En → Prop) (Done : En → Prop) : ∀ (fuel m : Nat) (ρ : En), m < fuel → Inv m ρ →
    (∀ m ρ, Inv m ρ → (∃ ρ1, c ρ = .ok false ρ1 ∧ Done ρ1) ∨ ∃ ρ1 ρ2 m', c ρ = .ok true ρ1 ∧ (s ρ1 = .ok .nx ρ2 ∨ s ρ1 = .ok .ct ρ2) ∧ m' < m ∧ Inv m' ρ2) → ∃ ρ', whileL c s fuel ρ = .ok .nx ρ' ∧ Done ρ'
  | 0, m, ρ, h, _, _ => by omega
  | n + 1, m, ρ, h, hi, hs => by
    rcases hs m ρ hi with ⟨ρ1, h1, h2⟩ | ⟨ρ1, ρ2, m', h1, h2, h3, h4⟩
    · refine ⟨ρ1, ?_, h2⟩
      unfold whileL
      rw [h1]
      rfl
    · obtain ⟨ρ', h5, h6⟩ := while_ok (c := c) (s := s) Inv Done n m' ρ2 (by omega) h4 hs
      refine ⟨ρ', ?_, h6⟩
      unfold whileL
      rw [h1]
      rcases h2 with h2 | h2 <;> (simp only [R.bind_ok, if_true, h2]; exact h5)
/-! ### evaluation by simp -/
@[simp] theorem x_seqS (s t : S) (ρ : En) : seqS s t ρ = match s ρ with
  | .ok .nx ρ' => t ρ'
  | r => r := Eq.trans rfl rfl
@[simp] theorem x_nxS (ρ : En) : nxS ρ = .ok .nx ρ := Eq.trans rfl rfl
@[simp] theorem x_bkS (ρ : En) : bkS ρ = .ok .bk ρ := Eq.trans rfl rfl
@[simp] theorem x_ctS (ρ : En) : ctS ρ = .ok .ct ρ := Eq.trans rfl rfl
@[simp] theorem x_retS (m : M D) (fr : Bool) (ρ : En) : retS m fr ρ = (m ρ).bind fun d ρ' => if fr = false ∧ isMut d = true then .bad else .ok (.ret d) ρ' := Eq.trans rfl rfl
@[simp] theorem x_retNS (ρ : En) : retNS ρ = .ok (.ret .non) ρ := Eq.trans rfl rfl
@[simp] theorem x_retV (i : Nat) (ρ : En) : retV i ρ = match ρ[i]? with
  | some (.val d) => if isMut d then .bad else .ok (.ret d) ρ
  | some (.own d) => .ok (.ret d) (ρ.set i .no)
  | _ => .bad := Eq.trans rfl rfl
@[simp] theorem x_ifS (c : M Bool) (s t : S) (ρ : En) : ifS c s t ρ = (c ρ).bind fun b ρ' => if b = true then s ρ' else t ρ' := Eq.trans rfl rfl
@[simp] theorem x_asgS (i : Nat) (m : M D) (fr : Bool) (ρ : En) : asgS i m fr ρ = (m ρ).bind fun d ρ' => .ok .nx (ρ'.set i (slotOf fr d)) := Eq.trans rfl rfl
@[simp] theorem x_slotOf (d : D) : slotOf true d = if isMut d = true then .own d else .val d := by simp [slotOf]
@[simp] theorem x_slotOf' (d : D) : slotOf false d = .val d := by simp [slotOf]
@[simp] theorem x_opM (f : List D → Option D) (os : List Opd) (ρ : En) : opM f os ρ = (evO os ρ).bind fun ds ρ' => match f ds with
  | some d => .ok d ρ'
  | none => .bad := Eq.trans rfl rfl
@[simp] theorem x_opI (f : List D → Option (List D)) (os : List Opd) (ρ : En) : opI f os ρ = (evO os ρ).bind fun ds ρ' => match f ds with
  | some d => .ok d ρ'
  | none => .bad := Eq.trans rfl rfl
@[simp] theorem x_ev0 (ρ : En) : evO [] ρ = .ok [] ρ := Eq.trans rfl rfl
@[simp] theorem x_ev1 (m : M D) (os : List Opd) (ρ : En) : evO (.ex m :: os) ρ = (m ρ).bind fun d ρ1 => (evO os ρ1).bind fun ds ρ2 => .ok (d :: ds) ρ2 := Eq.trans rfl rfl
@[simp] theorem x_ev2 (i : Nat) (os : List Opd) (ρ : En) : evO (.va i :: os) ρ = match slD ρ[i]? with
    | none => .bad
    | some _ => (evO os ρ).bind fun ds ρ2 => match slD ρ2[i]? with
      | some d => .ok (d :: ds) ρ2
      | none => .bad := Eq.trans rfl rfl
@[simp] theorem x_sl1 (d : D) : slD (some (.val d)) = some d := Eq.trans rfl rfl
@[simp] theorem x_sl2 (d : D) : slD (some (.own d)) = some d := Eq.trans rfl rfl
@[simp] theorem x_retM (d : D) (ρ : En) : retM d ρ = .ok d ρ := Eq.trans rfl rfl
@[simp] theorem x_varM (i : Nat) (ρ : En) : varM i ρ = match ρ[i]? with
  | some (.val d) => .ok d ρ
  | some (.own d) => .ok d (ρ.set i (.val d))
  | _ => .bad := Eq.trans rfl rfl
@[simp] theorem x_f1 (f : D → Option D) (a : D) : f1 f [a] = f a := Eq.trans rfl rfl
@[simp] theorem x_f2 (f : D → D → Option D) (a b : D) : f2 f [a, b] = f a b := Eq.trans rfl rfl
@[simp] theorem x_boolM (m : M D) (ρ : En) : boolM m ρ = (m ρ).bind fun d ρ' => match d with
  | .bl b => .ok b ρ'
  | _ => .bad := Eq.trans rfl rfl
@[simp] theorem x_truM (o : Opd) (ρ : En) : truM o ρ = (evO [o] ρ).bind fun ds ρ' => match ds with
  | [d] => (match truD d with
    | some b => .ok b ρ'
    | none => .bad)
  | _ => .bad := Eq.trans rfl rfl
@[simp] theorem x_notM (m : M Bool) (ρ : En) : notM m ρ = (m ρ).bind fun b ρ' => .ok (!b) ρ' := Eq.trans rfl rfl
@[simp] theorem x_andM (m n : M Bool) (ρ : En) : andM m n ρ = (m ρ).bind fun b ρ' => if b = true then n ρ' else .ok false ρ' := Eq.trans rfl rfl
@[simp] theorem x_orM (m n : M Bool) (ρ : En) : orM m n ρ = (m ρ).bind fun b ρ' => if b = true then .ok true ρ' else n ρ' := Eq.trans rfl rfl
@[simp] theorem x_iteM (c : M Bool) (m n : M D) (ρ : En) : iteM c m n ρ = (c ρ).bind fun b ρ' => if b = true then m ρ' else n ρ' := Eq.trans rfl rfl
@[simp] theorem x_tvM (m : M Bool) (ρ : En) : tvM m ρ = (m ρ).bind fun b ρ' => .ok (.bl b) ρ' := Eq.trans rfl rfl
@[simp] theorem x_lstM (ms : List (M D)) (ρ : En) : lstM ms ρ = (evO (ms.map Opd.ex) ρ).bind fun ds ρ' => .ok (.lst ds) ρ' := Eq.trans rfl rfl
@[simp] theorem x_tupM (ms : List (M D)) (ρ : En) : tupM ms ρ = (evO (ms.map Opd.ex) ρ).bind fun ds ρ' => .ok (.tup ds) ρ' := Eq.trans rfl rfl
@[simp] theorem x_forS (mi : M (List D)) (t : Tg) (s : S) (ρ : En) : forS mi t s ρ = (mi ρ).bind fun ds ρ1 => forL t s ds ρ1 := Eq.trans rfl rfl
@[simp] theorem x_whileS (c : M Bool) (s : S) (ρ : En) : whileS c s ρ = whileL c s 1000000000 ρ := Eq.trans rfl rfl
@[simp] theorem x_parS (l : List PIt) (ρ : En) : parS l ρ = match parL l ρ with
  | .ok _ ρ' => .ok .nx ρ'
  | .exc x ρ' => .exc x ρ'
  | .bad => .bad := Eq.trans rfl rfl
@[simp] theorem x_par0 (ρ : En) : parL [] ρ = .ok () ρ := Eq.trans rfl rfl
@[simp] theorem x_par1 (q : PIt) (r : List PIt) (ρ : En) : parL (q :: r) ρ = (q.m ρ).bind fun d ρ1 => match parL r ρ1 with
    | .ok _ ρ2 => .ok () (ρ2.set q.i (slotOf q.fr d))
    | .exc x ρ2 => .exc x ρ2
    | .bad => .bad := Eq.trans rfl rfl
@[simp] theorem x_appS (i : Nat) (m : M D) (ρ : En) : appS i m ρ = match ρ[i]? with
  | some (.own (.lst _)) => (m ρ).bind fun d ρ' => (match ρ'[i]? with
    | some (.own (.lst ds)) => if ds.length ≤ 16000000 then .ok .nx (ρ'.set i (.own (.lst (ds ++ [d])))) else .bad
    | _ => .bad)
  | _ => .bad := Eq.trans rfl rfl
@[simp] theorem x_setS (j : Nat) (oi : Opd) (m : M D) (ρ : En) : setS j oi m ρ = (m ρ).bind fun d ρ1 => match slD ρ1[j]? with
  | none => .bad
  | some _ => (evO [oi] ρ1).bind fun es ρ2 => (match es, ρ2[j]? with
    | [.int n], some (.own (.lst ds)) => (match ixI ds.length n with
      | some q => .ok .nx (ρ2.set j (.own (.lst (ds.set q d))))
      | none => .bad)
    | _, _ => .bad) := Eq.trans rfl rfl
@[simp] theorem x_callM (s : Fn) (os : List Opd) (ρ : En) : callM s os ρ = (evO os ρ).bind fun ds ρ' => match s ds with
  | .ok d => .ok d (if hasOwn os ρ' then (if indep d then ρ' else giveAll ρ') else ρ')
  | .exc x => .exc x ρ'
  | .bad => .bad := Eq.trans rfl rfl
@[simp] theorem x_cmpEq : cmpD .Eq = eqD := Eq.trans rfl rfl
@[simp] theorem x_cmpNe : cmpD .NotEq = neD := Eq.trans rfl rfl
@[simp] theorem x_cmpLt : cmpD .Lt = ltD := Eq.trans rfl rfl
@[simp] theorem x_cmpLe : cmpD .LtE = leD := Eq.trans rfl rfl
@[simp] theorem x_cmpGt : cmpD .Gt = gtD := Eq.trans rfl rfl
@[simp] theorem x_cmpGe : cmpD .GtE = geD := Eq.trans rfl rfl
@[simp] theorem x_cmpIs : cmpD .Is = isD := Eq.trans rfl rfl
@[simp] theorem x_cmpIn (a b : D) : cmpD .In a b = (inB' a b).map D.bl := Eq.trans rfl rfl
@[simp] theorem x_eqI (i j : Int) : eqD (.int i) (.int j) = some (.bl (decide (i = j))) := Eq.trans rfl rfl
@[simp] theorem x_neI (i j : Int) : neD (.int i) (.int j) = some (.bl (!decide (i = j))) := Eq.trans rfl rfl
@[simp] theorem x_ltI (i j : Int) : ltD (.int i) (.int j) = some (.bl (decide (i < j))) := Eq.trans rfl rfl
@[simp] theorem x_leI (i j : Int) : leD (.int i) (.int j) = some (.bl (decide (i ≤ j))) := Eq.trans rfl rfl
@[simp] theorem x_gtI (i j : Int) : gtD (.int i) (.int j) = some (.bl (decide (j < i))) := Eq.trans rfl rfl
@[simp] theorem x_geI (i j : Int) : geD (.int i) (.int j) = some (.bl (decide (j ≤ i))) := Eq.trans rfl rfl
@[simp] theorem x_isI (i : Int) : isD (.int i) .non = some (.bl false) := Eq.trans rfl rfl
@[simp] theorem x_add (i j : Int) : addD (.int i) (.int j) = some (.int (i + j)) := Eq.trans rfl rfl
@[simp] theorem x_sub (i j : Int) : subD (.int i) (.int j) = some (.int (i - j)) := Eq.trans rfl rfl
@[simp] theorem x_mul (i j : Int) : mulD (.int i) (.int j) = if MulOk i j then some (.int (i * j)) else none := Eq.trans rfl rfl
@[simp] theorem x_mod (i j : Int) : modD (.int i) (.int j) = if 0 < j then some (.int (i % j)) else none := Eq.trans rfl rfl
@[simp] theorem x_div (i j : Int) : fdivD (.int i) (.int j) = if CDiv i j then some (.int (i / j)) else if CDivW i j then some (.int (i / j)) else none := Eq.trans rfl rfl
@[simp] theorem x_xor (i j : Int) : xorD (.int i) (.int j) = some (.int (Builtin.bitXor i j)) := Eq.trans rfl rfl
@[simp] theorem x_and (i j : Int) : andD (.int i) (.int j) = some (.int (Builtin.bitAnd i j)) := Eq.trans rfl rfl
@[simp] theorem x_shr (i j : Int) : shrD (.int i) (.int j) = if 0 ≤ j then some (.int (i / 2 ^ j.toNat)) else none := Eq.trans rfl rfl
@[simp] theorem x_neg (i : Int) : negD (.int i) = some (.int (-i)) := Eq.trans rfl rfl
@[simp] theorem x_abs (i : Int) : absD (.int i) = some (.int (if i < 0 then -i else i)) := Eq.trans rfl rfl
@[simp] theorem x_int (i : Int) : intD (.int i) = some (.int i) := Eq.trans rfl rfl
@[simp] theorem x_isi (T : String) (d : D) : isiD T d = some (.bl (isiB T d)) := Eq.trans rfl rfl
@[simp] theorem x_truB (b : Bool) : truD (.bl b) = some b := Eq.trans rfl rfl
@[simp] theorem x_mutI (i : Int) : isMut (.int i) = false := Eq.trans rfl rfl
@[simp] theorem x_mutB (i : Bool) : isMut (.bl i) = false := Eq.trans rfl rfl
@[simp] theorem x_mutL (l : List D) : isMut (.lst l) = true := Eq.trans rfl rfl
@[simp] theorem x_mutT (l : List D) : isMut (.tup l) = false := Eq.trans rfl rfl
@[simp] theorem x_indI (i : Int) : indep (.int i) = true := Eq.trans rfl rfl
@[simp] theorem x_indB (i : Bool) : indep (.bl i) = true := Eq.trans rfl rfl
@[simp] theorem x_len (l : List D) : lenD (.lst l) = some (.int l.length) := Eq.trans rfl rfl
@[simp] theorem x_lenT (l : List D) : lenD (.tup l) = some (.int l.length) := Eq.trans rfl rfl
@[simp] theorem x_lenS (l : List Int) : lenD (.scr l) = some (.int l.length) := Eq.trans rfl rfl
@[simp] theorem x_andV (m n : M D) (ρ : En) : andV m n ρ = (m ρ).bind fun d ρ' => match truD d with
  | some true => n ρ'
  | some false => .ok d ρ'
  | none => .bad := Eq.trans rfl rfl
@[simp] theorem x_orV (m n : M D) (ρ : En) : orV m n ρ = (m ρ).bind fun d ρ' => match truD d with
  | some true => .ok d ρ'
  | some false => n ρ'
  | none => .bad := Eq.trans rfl rfl
theorem ixI_nn {n : Nat} {i : Int} (h : 0 ≤ i) (h2 : i < n) : ixI n i = some i.toNat := by
  unfold ixI
  rw [if_pos h, if_pos h2]
theorem forI {f : List D → Option (List D)} {os : List Opd} {t : Tg} {s : S} {ρ ρ1 : En} {ds zs : List D} (h1 : evO os ρ = .ok ds ρ1) (h2 : f ds = some zs) : forS (opI f os) t s ρ = forL t s zs ρ1 := by
  unfold forS opI
  rw [h1]
  simp only [R.bind_ok, h2]
/-- a def's end, by its body's -/
theorem run_of {n : Nat} {s : S} {args : List D} {d : D} {ρ : En} (h : s (args.map Sl.val ++ List.replicate (n - args.length) .no) = .ok (.ret d) ρ) : runB n s args = .ok d := by
  unfold runB
  rw [h]
theorem seq_nx {s t : S} {ρ ρ' : En} (h : s ρ = .ok .nx ρ') : seqS s t ρ = t ρ' := by
  unfold seqS
  rw [h]
end Dv
namespace Dv
open PySem PyProof.Rows L2
/-! ### the helpers that all laws share -/
def drBody : S := ifS (andM (truM (.va 3)) (boolM (opM (f2 (cmpD .Gt)) [.va 2, .ex (retM (.int 0))])))
        (seqS (appS 5 (opM (f2 modD) [.ex (opM (f1 intD) [.va 2]), .ex (retM (.int 5040))]))
        (asgS 2 (opM (f2 fdivD) [.va 2, .ex (retM (.int 5040))]) true))
        (seqS (asgS 7 (opM (f2 modD) [.ex (opM (f1 intD) [.ex (opM (f2 addD) [.ex (opM (f2 addD) [.ex (opM (f2 mulD) [.va 4, .ex (retM (.int 48271))]), .ex (opM (f2 mulD) [.ex (opM (f2 addD) [.va 6, .ex (retM (.int 1))]), .ex (retM (.int 69621))])]), .ex (retM (.int 11))])]), .ex (retM (.int 2147483647))]) true)
        (seqS (asgS 7 (opM (f2 modD) [.ex (opM (f1 intD) [.ex (opM (f2 addD) [.ex (opM (f2 mulD) [.va 7, .va 7]), .ex (opM (f2 mulD) [.ex (retM (.int 40692)), .ex (opM (f2 addD) [.va 6, .ex (retM (.int 3))])])])]), .ex (retM (.int 2147483399))]) true)
        (appS 5 (opM (f2 modD) [.ex (opM (f1 intD) [.ex (opM (f2 fdivD) [.va 7, .ex (retM (.int 64))])]), .ex (retM (.int 5040))]))))
def semDraws : Fn := runB 8
    (seqS (asgS 2 (opM (f1 absD) [.ex (opM (f1 intD) [.va 0])]) true)
    (seqS (asgS 3 (opM (f2 (cmpD .GtE)) [.va 2, .ex (opM (f2 powD) [.ex (retM (.int 10)), .ex (retM (.int 18))])]) true)
    (seqS (asgS 4 (varM 2) false)
    (seqS (asgS 5 (lstM []) true)
    (seqS (forS (opI rng1 [.va 1]) (.nm 6) drBody)
    (retV 5))))))
theorem mulOk_r {i j : Int} (h : -(2 ^ 64) < j ∧ j < 2 ^ 64) : MulOk i j := .inl (.inr h)
theorem mulOk_l {i j : Int} (h : -(2 ^ 64) < i ∧ i < 2 ^ 64) : MulOk i j := .inl (.inl h)
theorem cdiv_ok {i j : Int} (h : 0 < j ∧ j < 1073741824) : CDiv i j := h
theorem p5040 : (0 : Int) < 5040 := by decide
theorem pM1 : (0 : Int) < 2147483647 := by decide
theorem pM2 : (0 : Int) < 2147483399 := by decide
theorem dr_dig {a b s c : Sl} {r : Int} {ds : List D} {k m : Sl} (hr : 0 < r) (hl : ds.length ≤ 16000000) :
    drBody [a, b, .val (.int r), .val (.bl true), s, .own (.lst ds), k, m] = .ok .nx [a, b, .val (.int (r / 5040)), .val (.bl true), s, .own (.lst (ds ++ [.int (r % 5040)])), k, m] := by
  have d1 : CDiv r 5040 := cdiv_ok (by decide)
  unfold drBody
  simp only [x_seqS, x_nxS, x_bkS, x_ctS, x_retS, x_retNS, x_retV, x_ifS, x_asgS, x_slotOf, x_slotOf', x_opM, x_opI, x_ev0, x_ev1, x_ev2, x_sl1, x_sl2, x_retM, x_varM, x_f1, x_f2, x_boolM, x_truM, x_notM, x_andM, x_orM, x_iteM, x_tvM, x_lstM, x_tupM, x_forS, x_whileS, x_parS, x_par0, x_par1, x_appS, x_setS, x_callM, x_cmpEq, x_cmpNe, x_cmpLt, x_cmpLe, x_cmpGt, x_cmpGe, x_cmpIs, x_cmpIn, x_eqI, x_neI, x_ltI, x_leI, x_gtI, x_geI, x_isI, x_add, x_sub, x_mul, x_mod, x_div, x_xor, x_and, x_shr, x_neg, x_abs, x_int, x_isi, x_truB, x_mutI, x_mutB, x_mutL, x_mutT, x_indI, x_indB, x_len, x_lenT, x_lenS, x_andV, x_orV, R.bind_ok, R.bind_exc, R.bind_bad, List.getElem?_cons_zero, List.getElem?_cons_succ, List.set_cons_zero, List.set_cons_succ, Option.map_some, if_true, if_false, decide_eq_true_eq, Bool.not_eq_true, decide_true, decide_false, Bool.false_eq_true, Bool.not_true, Bool.not_false, and_true, true_and, and_false, false_and, List.map_cons, List.map_nil, List.replicate, List.cons_append, List.nil_append, List.length_cons, List.length_nil, List.append_nil, reduceCtorEq, Nat.reduceSub, Nat.reduceAdd, hasOwn, List.any_cons, List.any_nil, Bool.or_false, Bool.or_true, Bool.true_or, Bool.false_or, List.isEmpty_nil, ite_self, eq_self, hr, hl, d1, p5040]
theorem dr_mix {a b c : Sl} {r s k : Int} {bb : Bool} {ds : List D} {m : Sl} (hb : ¬ (bb = true ∧ 0 < r)) (hl : ds.length ≤ 16000000) :
    ∃ x y : Int, drBody [a, b, .val (.int r), .val (.bl bb), .val (.int s), .own (.lst ds), .val (.int k), m] = .ok .nx [a, b, .val (.int r), .val (.bl bb), .val (.int s), .own (.lst (ds ++ [.int (x % 5040)])), .val (.int k), .val (.int y)] := by
  have m1 : ∀ x : Int, MulOk x 48271 := fun x => mulOk_r (by decide)
  have m2 : ∀ x : Int, MulOk x 69621 := fun x => mulOk_r (by decide)
  have m3 : ∀ x : Int, MulOk 40692 x := fun x => mulOk_l (by decide)
  have m4 : ∀ x : Int, MulOk (x % 2147483647) (x % 2147483647) := fun x => mulOk_l (by
    have h1 : 0 ≤ x % 2147483647 := Int.emod_nonneg _ (by decide)
    have h2 : x % 2147483647 < 2147483647 := Int.emod_lt_of_pos _ (by decide)
    omega)
  have d1 : ∀ x : Int, CDiv x 64 := fun x => cdiv_ok (by decide)
  refine ⟨((((s * 48271 + (k + 1) * 69621 + 11) % 2147483647) * ((s * 48271 + (k + 1) * 69621 + 11) % 2147483647) + 40692 * (k + 3)) % 2147483399) / 64, (((s * 48271 + (k + 1) * 69621 + 11) % 2147483647) * ((s * 48271 + (k + 1) * 69621 + 11) % 2147483647) + 40692 * (k + 3)) % 2147483399, ?_⟩
  unfold drBody
  cases bb with
  | false => simp only [x_seqS, x_nxS, x_bkS, x_ctS, x_retS, x_retNS, x_retV, x_ifS, x_asgS, x_slotOf, x_slotOf', x_opM, x_opI, x_ev0, x_ev1, x_ev2, x_sl1, x_sl2, x_retM, x_varM, x_f1, x_f2, x_boolM, x_truM, x_notM, x_andM, x_orM, x_iteM, x_tvM, x_lstM, x_tupM, x_forS, x_whileS, x_parS, x_par0, x_par1, x_appS, x_setS, x_callM, x_cmpEq, x_cmpNe, x_cmpLt, x_cmpLe, x_cmpGt, x_cmpGe, x_cmpIs, x_cmpIn, x_eqI, x_neI, x_ltI, x_leI, x_gtI, x_geI, x_isI, x_add, x_sub, x_mul, x_mod, x_div, x_xor, x_and, x_shr, x_neg, x_abs, x_int, x_isi, x_truB, x_mutI, x_mutB, x_mutL, x_mutT, x_indI, x_indB, x_len, x_lenT, x_lenS, x_andV, x_orV, R.bind_ok, R.bind_exc, R.bind_bad, List.getElem?_cons_zero, List.getElem?_cons_succ, List.set_cons_zero, List.set_cons_succ, Option.map_some, if_true, if_false, decide_eq_true_eq, Bool.not_eq_true, decide_true, decide_false, Bool.false_eq_true, Bool.not_true, Bool.not_false, and_true, true_and, and_false, false_and, List.map_cons, List.map_nil, List.replicate, List.cons_append, List.nil_append, List.length_cons, List.length_nil, List.append_nil, reduceCtorEq, Nat.reduceSub, Nat.reduceAdd, hasOwn, List.any_cons, List.any_nil, Bool.or_false, Bool.or_true, Bool.true_or, Bool.false_or, List.isEmpty_nil, ite_self, eq_self, hl, d1, m1, m2, m3, m4, p5040, pM1, pM2]
  | true =>
    have hr : ¬ 0 < r := fun z => hb ⟨rfl, z⟩
    simp only [x_seqS, x_nxS, x_bkS, x_ctS, x_retS, x_retNS, x_retV, x_ifS, x_asgS, x_slotOf, x_slotOf', x_opM, x_opI, x_ev0, x_ev1, x_ev2, x_sl1, x_sl2, x_retM, x_varM, x_f1, x_f2, x_boolM, x_truM, x_notM, x_andM, x_orM, x_iteM, x_tvM, x_lstM, x_tupM, x_forS, x_whileS, x_parS, x_par0, x_par1, x_appS, x_setS, x_callM, x_cmpEq, x_cmpNe, x_cmpLt, x_cmpLe, x_cmpGt, x_cmpGe, x_cmpIs, x_cmpIn, x_eqI, x_neI, x_ltI, x_leI, x_gtI, x_geI, x_isI, x_add, x_sub, x_mul, x_mod, x_div, x_xor, x_and, x_shr, x_neg, x_abs, x_int, x_isi, x_truB, x_mutI, x_mutB, x_mutL, x_mutT, x_indI, x_indB, x_len, x_lenT, x_lenS, x_andV, x_orV, R.bind_ok, R.bind_exc, R.bind_bad, List.getElem?_cons_zero, List.getElem?_cons_succ, List.set_cons_zero, List.set_cons_succ, Option.map_some, if_true, if_false, decide_eq_true_eq, Bool.not_eq_true, decide_true, decide_false, Bool.false_eq_true, Bool.not_true, Bool.not_false, and_true, true_and, and_false, false_and, List.map_cons, List.map_nil, List.replicate, List.cons_append, List.nil_append, List.length_cons, List.length_nil, List.append_nil, reduceCtorEq, Nat.reduceSub, Nat.reduceAdd, hasOwn, List.any_cons, List.any_nil, Bool.or_false, Bool.or_true, Bool.true_or, Bool.false_or, List.isEmpty_nil, ite_self, eq_self, hr, hl, d1, m1, m2, m3, m4, p5040, pM1, pM2]
theorem pow18 : powD (.int 10) (.int 18) = some (.int 1000000000000000000) := by
  show (if CPow 10 18 then some (D.int (10 ^ (18 : Int).toNat)) else none) = _
  rw [if_pos (show CPow 10 18 from ⟨by decide, by decide, by decide⟩)]
  exact congrArg (fun z => some (D.int z)) (by decide)
theorem rng_nat {n : Nat} (hn : n ≤ 10000) : rng1 [.int (n : Int)] = some (rangeL 0 n 1) := by
  have hr : InRg (n : Int) := by unfold InRg; omega
  show (if InRg (n : Int) then some (rangeL 0 (n : Int).toNat 1) else none) = _
  rw [if_pos hr, Int.toNat_natCast]
theorem draws_ok (c : Int) (n : Nat) (hn : n ≤ 10000) : ∃ ds : List Int, ds.length = n ∧ (∀ d ∈ ds, 0 ≤ d ∧ d < 5040) ∧ semDraws [.int c, .int n] = .ok (.lst (ds.map D.int)) := by
  obtain ⟨K, hK⟩ : ∃ K : Int, powD (.int 10) (.int 18) = some (.int K) := ⟨_, pow18⟩
  let Inv : Nat → En → Prop := fun i ρ => ∃ (r s : Int) (b : Bool) (ds : List Int) (k m : Sl), ρ = [.val (.int c), .val (.int n), .val (.int r), .val (.bl b), .val (.int s), .own (.lst (ds.map D.int)), k, m] ∧ ds.length = i ∧ ∀ d ∈ ds, 0 ≤ d ∧ d < 5040
  obtain ⟨ρ', h1, r, s, b, ds, k, m, h2, h3, h4⟩ := for_range (v := 6) (lo := 0) (c := 1) (n := n) (s := drBody)
      (ρ := [.val (.int c), .val (.int n), .val (.int (if c < 0 then -c else c)), .val (.bl (decide (K ≤ (if c < 0 then -c else c)))), .val (.int (if c < 0 then -c else c)), .own (.lst []), .no, .no]) Inv
      ⟨_, _, _, [], _, _, rfl, rfl, fun d hd => by cases hd⟩ (by
        rintro i _ hi ⟨r, s, b, ds, k, m, rfl, hl, hd⟩
        have hlen : (ds.map D.int).length ≤ 16000000 := by rw [List.length_map]; omega
        have fin : ∀ (x : Int), (∀ d ∈ ds ++ [x % 5040], 0 ≤ d ∧ d < 5040) := fun x d hm => by
          rcases List.mem_append.mp hm with hm | hm
          · exact hd d hm
          · rw [List.mem_singleton] at hm
            subst hm
            exact ⟨Int.emod_nonneg _ (by decide), Int.emod_lt_of_pos _ (by decide)⟩
        have ln : ∀ x : Int, (ds ++ [x]).length = i + 1 := fun x => by rw [List.length_append, hl]; rfl
        by_cases hb : b = true ∧ 0 < r
        · obtain ⟨rfl, hr0⟩ := hb
          refine ⟨_, .inl (dr_dig (c := .no) hr0 hlen), r / 5040, s, true, ds ++ [r % 5040], .val (.int (0 + i * 1)), m, ?_, ln _, fin r⟩
          rw [List.map_append]
          rfl
        · obtain ⟨x, y, hm⟩ := dr_mix (c := .no) (a := .val (.int c)) (b := .val (.int n)) (s := s) (k := 0 + i * 1) (m := m) hb hlen
          refine ⟨_, .inl hm, r, s, b, ds ++ [x % 5040], .val (.int (0 + i * 1)), .val (.int y), ?_, ln _, fin x⟩
          rw [List.map_append]
          rfl)
  refine ⟨ds, h3, h4, ?_⟩
  unfold semDraws
  refine run_of (ρ := ρ'.set 5 .no) ?_
  have hrn := rng_nat hn
  refine (seq_nx (ρ' := [.val (.int c), .val (.int n), .val (.int (if c < 0 then -c else c)), .no, .no, .no, .no, .no]) ?_).trans ?_
  · simp only [x_seqS, x_nxS, x_bkS, x_ctS, x_retS, x_retNS, x_retV, x_ifS, x_asgS, x_slotOf, x_slotOf', x_opM, x_opI, x_ev0, x_ev1, x_ev2, x_sl1, x_sl2, x_retM, x_varM, x_f1, x_f2, x_boolM, x_truM, x_notM, x_andM, x_orM, x_iteM, x_tvM, x_lstM, x_tupM, x_forS, x_whileS, x_parS, x_par0, x_par1, x_appS, x_setS, x_callM, x_cmpEq, x_cmpNe, x_cmpLt, x_cmpLe, x_cmpGt, x_cmpGe, x_cmpIs, x_cmpIn, x_eqI, x_neI, x_ltI, x_leI, x_gtI, x_geI, x_isI, x_add, x_sub, x_mul, x_mod, x_div, x_xor, x_and, x_shr, x_neg, x_abs, x_int, x_isi, x_truB, x_mutI, x_mutB, x_mutL, x_mutT, x_indI, x_indB, x_len, x_lenT, x_lenS, x_andV, x_orV, R.bind_ok, R.bind_exc, R.bind_bad, List.getElem?_cons_zero, List.getElem?_cons_succ, List.set_cons_zero, List.set_cons_succ, Option.map_some, if_true, if_false, decide_eq_true_eq, Bool.not_eq_true, decide_true, decide_false, Bool.false_eq_true, Bool.not_true, Bool.not_false, and_true, true_and, and_false, false_and, List.map_cons, List.map_nil, List.replicate, List.cons_append, List.nil_append, List.length_cons, List.length_nil, List.append_nil, reduceCtorEq, Nat.reduceSub, Nat.reduceAdd, hasOwn, List.any_cons, List.any_nil, Bool.or_false, Bool.or_true, Bool.true_or, Bool.false_or, List.isEmpty_nil, ite_self, eq_self]
  refine (seq_nx (ρ' := [.val (.int c), .val (.int n), .val (.int (if c < 0 then -c else c)), .val (.bl (decide (K ≤ (if c < 0 then -c else c)))), .no, .no, .no, .no]) ?_).trans ?_
  · simp only [x_seqS, x_nxS, x_bkS, x_ctS, x_retS, x_retNS, x_retV, x_ifS, x_asgS, x_slotOf, x_slotOf', x_opM, x_opI, x_ev0, x_ev1, x_ev2, x_sl1, x_sl2, x_retM, x_varM, x_f1, x_f2, x_boolM, x_truM, x_notM, x_andM, x_orM, x_iteM, x_tvM, x_lstM, x_tupM, x_forS, x_whileS, x_parS, x_par0, x_par1, x_appS, x_setS, x_callM, x_cmpEq, x_cmpNe, x_cmpLt, x_cmpLe, x_cmpGt, x_cmpGe, x_cmpIs, x_cmpIn, x_eqI, x_neI, x_ltI, x_leI, x_gtI, x_geI, x_isI, x_add, x_sub, x_mul, x_mod, x_div, x_xor, x_and, x_shr, x_neg, x_abs, x_int, x_isi, x_truB, x_mutI, x_mutB, x_mutL, x_mutT, x_indI, x_indB, x_len, x_lenT, x_lenS, x_andV, x_orV, R.bind_ok, R.bind_exc, R.bind_bad, List.getElem?_cons_zero, List.getElem?_cons_succ, List.set_cons_zero, List.set_cons_succ, Option.map_some, if_true, if_false, decide_eq_true_eq, Bool.not_eq_true, decide_true, decide_false, Bool.false_eq_true, Bool.not_true, Bool.not_false, and_true, true_and, and_false, false_and, List.map_cons, List.map_nil, List.replicate, List.cons_append, List.nil_append, List.length_cons, List.length_nil, List.append_nil, reduceCtorEq, Nat.reduceSub, Nat.reduceAdd, hasOwn, List.any_cons, List.any_nil, Bool.or_false, Bool.or_true, Bool.true_or, Bool.false_or, List.isEmpty_nil, ite_self, eq_self, hK]
  refine (seq_nx (ρ' := [.val (.int c), .val (.int n), .val (.int (if c < 0 then -c else c)), .val (.bl (decide (K ≤ (if c < 0 then -c else c)))), .val (.int (if c < 0 then -c else c)), .no, .no, .no]) ?_).trans ?_
  · simp only [x_seqS, x_nxS, x_bkS, x_ctS, x_retS, x_retNS, x_retV, x_ifS, x_asgS, x_slotOf, x_slotOf', x_opM, x_opI, x_ev0, x_ev1, x_ev2, x_sl1, x_sl2, x_retM, x_varM, x_f1, x_f2, x_boolM, x_truM, x_notM, x_andM, x_orM, x_iteM, x_tvM, x_lstM, x_tupM, x_forS, x_whileS, x_parS, x_par0, x_par1, x_appS, x_setS, x_callM, x_cmpEq, x_cmpNe, x_cmpLt, x_cmpLe, x_cmpGt, x_cmpGe, x_cmpIs, x_cmpIn, x_eqI, x_neI, x_ltI, x_leI, x_gtI, x_geI, x_isI, x_add, x_sub, x_mul, x_mod, x_div, x_xor, x_and, x_shr, x_neg, x_abs, x_int, x_isi, x_truB, x_mutI, x_mutB, x_mutL, x_mutT, x_indI, x_indB, x_len, x_lenT, x_lenS, x_andV, x_orV, R.bind_ok, R.bind_exc, R.bind_bad, List.getElem?_cons_zero, List.getElem?_cons_succ, List.set_cons_zero, List.set_cons_succ, Option.map_some, if_true, if_false, decide_eq_true_eq, Bool.not_eq_true, decide_true, decide_false, Bool.false_eq_true, Bool.not_true, Bool.not_false, and_true, true_and, and_false, false_and, List.map_cons, List.map_nil, List.replicate, List.cons_append, List.nil_append, List.length_cons, List.length_nil, List.append_nil, reduceCtorEq, Nat.reduceSub, Nat.reduceAdd, hasOwn, List.any_cons, List.any_nil, Bool.or_false, Bool.or_true, Bool.true_or, Bool.false_or, List.isEmpty_nil, ite_self, eq_self]
  refine (seq_nx (ρ' := [.val (.int c), .val (.int n), .val (.int (if c < 0 then -c else c)), .val (.bl (decide (K ≤ (if c < 0 then -c else c)))), .val (.int (if c < 0 then -c else c)), .own (.lst []), .no, .no]) ?_).trans ?_
  · simp only [x_seqS, x_nxS, x_bkS, x_ctS, x_retS, x_retNS, x_retV, x_ifS, x_asgS, x_slotOf, x_slotOf', x_opM, x_opI, x_ev0, x_ev1, x_ev2, x_sl1, x_sl2, x_retM, x_varM, x_f1, x_f2, x_boolM, x_truM, x_notM, x_andM, x_orM, x_iteM, x_tvM, x_lstM, x_tupM, x_forS, x_whileS, x_parS, x_par0, x_par1, x_appS, x_setS, x_callM, x_cmpEq, x_cmpNe, x_cmpLt, x_cmpLe, x_cmpGt, x_cmpGe, x_cmpIs, x_cmpIn, x_eqI, x_neI, x_ltI, x_leI, x_gtI, x_geI, x_isI, x_add, x_sub, x_mul, x_mod, x_div, x_xor, x_and, x_shr, x_neg, x_abs, x_int, x_isi, x_truB, x_mutI, x_mutB, x_mutL, x_mutT, x_indI, x_indB, x_len, x_lenT, x_lenS, x_andV, x_orV, R.bind_ok, R.bind_exc, R.bind_bad, List.getElem?_cons_zero, List.getElem?_cons_succ, List.set_cons_zero, List.set_cons_succ, Option.map_some, if_true, if_false, decide_eq_true_eq, Bool.not_eq_true, decide_true, decide_false, Bool.false_eq_true, Bool.not_true, Bool.not_false, and_true, true_and, and_false, false_and, List.map_cons, List.map_nil, List.replicate, List.cons_append, List.nil_append, List.length_cons, List.length_nil, List.append_nil, reduceCtorEq, Nat.reduceSub, Nat.reduceAdd, hasOwn, List.any_cons, List.any_nil, Bool.or_false, Bool.or_true, Bool.true_or, Bool.false_or, List.isEmpty_nil, ite_self, eq_self]
  refine (seq_nx (ρ' := ρ') ((forI (ds := [.int n]) ?_ hrn).trans h1)).trans ?_
  · simp only [x_seqS, x_nxS, x_bkS, x_ctS, x_retS, x_retNS, x_retV, x_ifS, x_asgS, x_slotOf, x_slotOf', x_opM, x_opI, x_ev0, x_ev1, x_ev2, x_sl1, x_sl2, x_retM, x_varM, x_f1, x_f2, x_boolM, x_truM, x_notM, x_andM, x_orM, x_iteM, x_tvM, x_lstM, x_tupM, x_forS, x_whileS, x_parS, x_par0, x_par1, x_appS, x_setS, x_callM, x_cmpEq, x_cmpNe, x_cmpLt, x_cmpLe, x_cmpGt, x_cmpGe, x_cmpIs, x_cmpIn, x_eqI, x_neI, x_ltI, x_leI, x_gtI, x_geI, x_isI, x_add, x_sub, x_mul, x_mod, x_div, x_xor, x_and, x_shr, x_neg, x_abs, x_int, x_isi, x_truB, x_mutI, x_mutB, x_mutL, x_mutT, x_indI, x_indB, x_len, x_lenT, x_lenS, x_andV, x_orV, R.bind_ok, R.bind_exc, R.bind_bad, List.getElem?_cons_zero, List.getElem?_cons_succ, List.set_cons_zero, List.set_cons_succ, Option.map_some, if_true, if_false, decide_eq_true_eq, Bool.not_eq_true, decide_true, decide_false, Bool.false_eq_true, Bool.not_true, Bool.not_false, and_true, true_and, and_false, false_and, List.map_cons, List.map_nil, List.replicate, List.cons_append, List.nil_append, List.length_cons, List.length_nil, List.append_nil, reduceCtorEq, Nat.reduceSub, Nat.reduceAdd, hasOwn, List.any_cons, List.any_nil, Bool.or_false, Bool.or_true, Bool.true_or, Bool.false_or, List.isEmpty_nil, ite_self, eq_self]
  · rw [h2]
    simp only [x_seqS, x_nxS, x_bkS, x_ctS, x_retS, x_retNS, x_retV, x_ifS, x_asgS, x_slotOf, x_slotOf', x_opM, x_opI, x_ev0, x_ev1, x_ev2, x_sl1, x_sl2, x_retM, x_varM, x_f1, x_f2, x_boolM, x_truM, x_notM, x_andM, x_orM, x_iteM, x_tvM, x_lstM, x_tupM, x_forS, x_whileS, x_parS, x_par0, x_par1, x_appS, x_setS, x_callM, x_cmpEq, x_cmpNe, x_cmpLt, x_cmpLe, x_cmpGt, x_cmpGe, x_cmpIs, x_cmpIn, x_eqI, x_neI, x_ltI, x_leI, x_gtI, x_geI, x_isI, x_add, x_sub, x_mul, x_mod, x_div, x_xor, x_and, x_shr, x_neg, x_abs, x_int, x_isi, x_truB, x_mutI, x_mutB, x_mutL, x_mutT, x_indI, x_indB, x_len, x_lenT, x_lenS, x_andV, x_orV, R.bind_ok, R.bind_exc, R.bind_bad, List.getElem?_cons_zero, List.getElem?_cons_succ, List.set_cons_zero, List.set_cons_succ, Option.map_some, if_true, if_false, decide_eq_true_eq, Bool.not_eq_true, decide_true, decide_false, Bool.false_eq_true, Bool.not_true, Bool.not_false, and_true, true_and, and_false, false_and, List.map_cons, List.map_nil, List.replicate, List.cons_append, List.nil_append, List.length_cons, List.length_nil, List.append_nil, reduceCtorEq, Nat.reduceSub, Nat.reduceAdd, hasOwn, List.any_cons, List.any_nil, Bool.or_false, Bool.or_true, Bool.true_or, Bool.false_or, List.isEmpty_nil, ite_self, eq_self]
/-- the script's k-th cell, or a number in its place -/
def semCell (u v : Int) : Fn := runB 2
    (seqS (ifS (boolM (opM (f2 (cmpD .Lt)) [.va 1, .ex (opM (f1 lenD) [.va 0])]))
      (retS (opM (f2 ixD) [.va 0, .va 1]) false)
      nxS)
    (retS (opM (f2 addD) [.ex (opM (f2 mulD) [.ex (retM (.int u)), .va 1]), .ex (retM (.int v))]) true))
theorem cell_ok {u v : Int} (hu : -(2 ^ 64) < u ∧ u < 2 ^ 64) (ns : List Int) (k : Int) (hk : 0 ≤ k) : ∃ c : Int, semCell u v [.scr ns, .int k] = .ok (.int c) := by
  by_cases h : k < (ns.length : Int)
  · have hx : ixD (.scr ns) (.int k) = some (.int (ns[k.toNat]'(by omega))) := by
      show ((ixI ns.length k).bind fun j => ns[j]?.map D.int) = _
      rw [ixI_nn hk h]
      show ns[k.toNat]?.map D.int = _
      rw [List.getElem?_eq_getElem (by omega)]
      rfl
    refine ⟨ns[k.toNat]'(by omega), run_of (ρ := [.val (.scr ns), .val (.int k)]) ?_⟩
    simp only [x_seqS, x_nxS, x_bkS, x_ctS, x_retS, x_retNS, x_retV, x_ifS, x_asgS, x_slotOf, x_slotOf', x_opM, x_opI, x_ev0, x_ev1, x_ev2, x_sl1, x_sl2, x_retM, x_varM, x_f1, x_f2, x_boolM, x_truM, x_notM, x_andM, x_orM, x_iteM, x_tvM, x_lstM, x_tupM, x_forS, x_whileS, x_parS, x_par0, x_par1, x_appS, x_setS, x_callM, x_cmpEq, x_cmpNe, x_cmpLt, x_cmpLe, x_cmpGt, x_cmpGe, x_cmpIs, x_cmpIn, x_eqI, x_neI, x_ltI, x_leI, x_gtI, x_geI, x_isI, x_add, x_sub, x_mul, x_mod, x_div, x_xor, x_and, x_shr, x_neg, x_abs, x_int, x_isi, x_truB, x_mutI, x_mutB, x_mutL, x_mutT, x_indI, x_indB, x_len, x_lenT, x_lenS, x_andV, x_orV, R.bind_ok, R.bind_exc, R.bind_bad, List.getElem?_cons_zero, List.getElem?_cons_succ, List.set_cons_zero, List.set_cons_succ, Option.map_some, if_true, if_false, decide_eq_true_eq, Bool.not_eq_true, decide_true, decide_false, Bool.false_eq_true, Bool.not_true, Bool.not_false, and_true, true_and, and_false, false_and, List.map_cons, List.map_nil, List.replicate, List.cons_append, List.nil_append, List.length_cons, List.length_nil, List.append_nil, reduceCtorEq, Nat.reduceSub, Nat.reduceAdd, hasOwn, List.any_cons, List.any_nil, Bool.or_false, Bool.or_true, Bool.true_or, Bool.false_or, List.isEmpty_nil, ite_self, eq_self, h, hx]
  · have m : MulOk u k := mulOk_l hu
    refine ⟨u * k + v, run_of (ρ := [.val (.scr ns), .val (.int k)]) ?_⟩
    simp only [x_seqS, x_nxS, x_bkS, x_ctS, x_retS, x_retNS, x_retV, x_ifS, x_asgS, x_slotOf, x_slotOf', x_opM, x_opI, x_ev0, x_ev1, x_ev2, x_sl1, x_sl2, x_retM, x_varM, x_f1, x_f2, x_boolM, x_truM, x_notM, x_andM, x_orM, x_iteM, x_tvM, x_lstM, x_tupM, x_forS, x_whileS, x_parS, x_par0, x_par1, x_appS, x_setS, x_callM, x_cmpEq, x_cmpNe, x_cmpLt, x_cmpLe, x_cmpGt, x_cmpGe, x_cmpIs, x_cmpIn, x_eqI, x_neI, x_ltI, x_leI, x_gtI, x_geI, x_isI, x_add, x_sub, x_mul, x_mod, x_div, x_xor, x_and, x_shr, x_neg, x_abs, x_int, x_isi, x_truB, x_mutI, x_mutB, x_mutL, x_mutT, x_indI, x_indB, x_len, x_lenT, x_lenS, x_andV, x_orV, R.bind_ok, R.bind_exc, R.bind_bad, List.getElem?_cons_zero, List.getElem?_cons_succ, List.set_cons_zero, List.set_cons_succ, Option.map_some, if_true, if_false, decide_eq_true_eq, Bool.not_eq_true, decide_true, decide_false, Bool.false_eq_true, Bool.not_true, Bool.not_false, and_true, true_and, and_false, false_and, List.map_cons, List.map_nil, List.replicate, List.cons_append, List.nil_append, List.length_cons, List.length_nil, List.append_nil, reduceCtorEq, Nat.reduceSub, Nat.reduceAdd, hasOwn, List.any_cons, List.any_nil, Bool.or_false, Bool.or_true, Bool.true_or, Bool.false_or, List.isEmpty_nil, ite_self, eq_self, h, m]
def semIsInt : Fn := runB 1 (retS (andV (opM (f1 (isiD "int")) [.va 0]) (tvM (notM (truM (.ex (opM (f1 (isiD "bool")) [.va 0])))))) false)
theorem isint_ok (d : D) : semIsInt [d] = .ok (.bl (isiB "int" d && !isiB "bool" d)) := by
  cases d <;> rfl
/-- value is due, itself again within: by its own meaning g one level below -/
def semIs (g h : Fn) : Fn := runB 3
    (seqS (ifS (boolM (opM (f2 (cmpD .Is)) [.va 1, .ex (retM (.non))]))
      (retS (opM (f2 (cmpD .Is)) [.va 0, .ex (retM (.non))]) true)
      nxS)
    (seqS (ifS (truM (.ex (opM (f1 (isiD "bool")) [.va 1])))
      (retS (andV (opM (f1 (isiD "bool")) [.va 0]) (opM (f2 (cmpD .Eq)) [.va 0, .va 1])) false)
      nxS)
    (seqS (ifS (truM (.ex (opM (f1 (isiD "int")) [.va 1])))
      (retS (andV (callM h [.va 0]) (opM (f2 (cmpD .Eq)) [.va 0, .va 1])) false)
      nxS)
    (seqS (ifS (truM (.ex (opM (f1 (isiD "str")) [.va 1])))
      (retS (andV (opM (f1 (isiD "str")) [.va 0]) (opM (f2 (cmpD .Eq)) [.va 0, .va 1])) false)
      nxS)
    (seqS (ifS (orM (notM (truM (.ex (opM (f1 (isiD "tuple")) [.va 0])))) (boolM (opM (f2 (cmpD .NotEq)) [.ex (opM (f1 lenD) [.va 0]), .ex (opM (f1 lenD) [.va 1])])))
      (retS (retM (.bl false)) false)
      nxS)
    (retS (opM (f1 allD) [.ex (compM (opI rng1 [.ex (opM (f1 lenD) [.va 1])]) [2] (.nm 2) yesM (callM g [.ex (opM (f2 ixD) [.va 0, .va 2]), .ex (opM (f2 ixD) [.va 1, .va 2])]))]) true))))))
theorem is_int {g h : Fn} (hh : ∀ d, h [d] = .ok (.bl (isiB "int" d && !isiB "bool" d))) (i j : Int) : semIs g h [.int i, .int j] = .ok (.bl (decide (i = j))) := by
  have e : h [.int i] = .ok (.bl true) := hh _
  refine run_of (ρ := [.val (.int i), .val (.int j), .no]) ?_
  simp only [x_seqS, x_nxS, x_bkS, x_ctS, x_retS, x_retNS, x_retV, x_ifS, x_asgS, x_slotOf, x_slotOf', x_opM, x_opI, x_ev0, x_ev1, x_ev2, x_sl1, x_sl2, x_retM, x_varM, x_f1, x_f2, x_boolM, x_truM, x_notM, x_andM, x_orM, x_iteM, x_tvM, x_lstM, x_tupM, x_forS, x_whileS, x_parS, x_par0, x_par1, x_appS, x_setS, x_callM, x_cmpEq, x_cmpNe, x_cmpLt, x_cmpLe, x_cmpGt, x_cmpGe, x_cmpIs, x_cmpIn, x_eqI, x_neI, x_ltI, x_leI, x_gtI, x_geI, x_isI, x_add, x_sub, x_mul, x_mod, x_div, x_xor, x_and, x_shr, x_neg, x_abs, x_int, x_isi, x_truB, x_mutI, x_mutB, x_mutL, x_mutT, x_indI, x_indB, x_len, x_lenT, x_lenS, x_andV, x_orV, R.bind_ok, R.bind_exc, R.bind_bad, List.getElem?_cons_zero, List.getElem?_cons_succ, List.set_cons_zero, List.set_cons_succ, Option.map_some, if_true, if_false, decide_eq_true_eq, Bool.not_eq_true, decide_true, decide_false, Bool.false_eq_true, Bool.not_true, Bool.not_false, and_true, true_and, and_false, false_and, List.map_cons, List.map_nil, List.replicate, List.cons_append, List.nil_append, List.length_cons, List.length_nil, List.append_nil, reduceCtorEq, Nat.reduceSub, Nat.reduceAdd, hasOwn, List.any_cons, List.any_nil, Bool.or_false, Bool.or_true, Bool.true_or, Bool.false_or, List.isEmpty_nil, ite_self, eq_self, e, show isiB "bool" (.int j) = false from rfl, show isiB "int" (.int j) = true from rfl]
/-! ### lists of ints -/
theorem toPys_ints : ∀ ns : List Int, toPys (ns.map D.int) = ns.map PyData.int
  | [] => rfl
  | n :: ns => by
    show toPy (.int n) :: toPys (ns.map D.int) = _
    rw [toPys_ints ns]
    rfl
theorem nodics_ints : ∀ ns : List Int, nodics (ns.map D.int) = true
  | [] => rfl
  | n :: ns => by
    show (nodic (.int n) && nodics (ns.map D.int)) = true
    rw [nodics_ints ns]
    rfl
theorem shaped_lint (ns : List Int) : shaped? (.lst (ns.map D.int)) = true := by
  show (nodics (ns.map D.int) && SeqAt.shaped (.list (toPys (ns.map D.int)))) = true
  rw [toPys_ints, nodics_ints, PySem.W.ke_shaped_ints]
  rfl
theorem shaped_int (i : Int) : shaped? (.int i) = true := rfl
theorem any_ints (x : Int) : ∀ ns : List Int, ((ns.map D.int).any fun z => PyData.eqv (toPy z) (toPy (.int x))) = decide (x ∈ ns)
  | [] => rfl
  | n :: ns => by
    rw [List.map_cons, List.any_cons, any_ints x ns]
    show ((n == x) || decide (x ∈ ns)) = _
    by_cases h : n = x
    · subst h; simp
    · have h' : ¬ x = n := fun e => h e.symm
      simp [h, h']
theorem in_ints (x : Int) (ns : List Int) : inB' (.int x) (.lst (ns.map D.int)) = some (decide (x ∈ ns)) := by
  show (if shaped? (.int x) && shaped? (.lst (ns.map D.int)) then some ((ns.map D.int).any fun z => PyData.eqv (toPy z) (toPy (.int x))) else none) = _
  rw [shaped_lint, shaped_int, any_ints]
  rfl
theorem firstB_ints (x : Int) : ∀ (ns : List Int) (i j : Nat), ns[j]? = some x → (∀ m, m < j → ns[m]? ≠ some x) → firstB (.int x) (ns.map PyData.int) i = some (i + j)
  | [], i, j, h, _ => by simp at h
  | n :: ns, i, 0, h, _ => by
    have : n = x := by simpa using h
    subst this
    show (if (n == n) = true then some i else _) = _
    simp
  | n :: ns, i, j + 1, h, hn => by
    have h0 : ¬ n = x := fun e => hn 0 (by omega) (by rw [e]; rfl)
    show (if (n == x) = true then some i else firstB (.int x) (ns.map PyData.int) (i + 1)) = _
    rw [if_neg (by simpa using h0), firstB_ints x ns (i + 1) j (by simpa using h) fun m hm => by
      have := hn (m + 1) (by omega)
      simpa using this]
    congr 1
    omega
theorem index_ints {ns : List Int} {x : Int} {j : Nat} (h : ns[j]? = some x) (hn : ∀ m, m < j → ns[m]? ≠ some x) : indexB (ns.map D.int) (.int x) = some j := by
  unfold indexB
  rw [shaped_lint, shaped_int]
  show firstB (.int x) (toPys (ns.map D.int)) 0 = some j
  rw [toPys_ints, firstB_ints x ns 0 j h hn, Nat.zero_add]
theorem x_idxM (i : Nat) (m : M D) (ρ : En) : idxM i m ρ = match slD ρ[i]? with
  | some (.lst _) => (m ρ).bind fun d ρ' => (match slD ρ'[i]? with
    | some (.lst ds) => (match indexB ds d with
      | some j => .ok (.int (j : Nat)) ρ'
      | none => .bad)
    | _ => .bad)
  | _ => .bad := Eq.trans rfl rfl
end Dv
namespace Dv
open PySem PyProof.Rows L2
/-! ### comprehensions over one name -/
theorem compL_ok {v : Nat} {elt : M D} {ρ : En} (F : D → D) (hv : v < ρ.length) (hn : ρ[v]? = some .no) : ∀ (ds : List D), (∀ d ∈ ds, elt (ρ.set v (.val d)) = .ok (F d) (ρ.set v (.val d))) → compL [v] (.nm v) yesM elt ds ρ = .ok (ds.map F) ρ
  | [], _ => rfl
  | d :: ds, h => by
    have e : (ρ.set v (.val d)).set v .no = ρ := by
      rw [List.set_set]
      apply List.ext_getElem?
      intro j
      by_cases hj : v = j
      · subst hj; rw [List.getElem?_set_self hv, hn]
      · rw [List.getElem?_set_ne hj]
    unfold compL
    simp only [bindT, yesM, h d List.mem_cons_self]
    show (match compL [v] (.nm v) yesM elt ds ((ρ.set v (.val d)).set v .no) with
          | .ok es ρ4 => R.ok (F d :: es) ρ4
          | .exc x ρ4 => .exc x ρ4
          | .bad => .bad) = _
    rw [e, compL_ok F hv hn ds fun d' h' => h d' (List.mem_cons_of_mem _ h')]
    rfl
theorem compM_ok {v : Nat} {mi : M (List D)} {elt : M D} {ρ : En} {ds : List D} (F : D → D) (hm : mi ρ = .ok ds ρ) (hf : freeSlots [v] ρ = true) (hl : ds.length ≤ 16000000) (hv : v < ρ.length) (he : ∀ d ∈ ds, elt (ρ.set v (.val d)) = .ok (F d) (ρ.set v (.val d))) :
    compM mi [v] (.nm v) yesM elt ρ = .ok (.lst (ds.map F)) ρ := by
  unfold compM
  rw [hm, R.bind_ok, if_pos ⟨hf, hl⟩]
  have h1 : compL [v] (.nm v) yesM elt ds (ρ.set v .no) = .ok (ds.map F) (ρ.set v .no) := by
    refine compL_ok F (by rw [List.length_set]; exact hv) (List.getElem?_set_self hv) ds fun d hd => ?_
    rw [List.set_set]
    exact he d hd
  show (match compL [v] (.nm v) yesM elt ds (ρ.set v .no) with
    | .ok es ρ2 => R.ok (D.lst es) (restore [v] ρ ρ2)
    | _ => .bad) = _
  rw [h1]
  show R.ok (D.lst (ds.map F)) ((ρ.set v .no).set v ((ρ[v]?).getD .no)) = _
  congr 1
  rw [List.set_set]
  apply List.ext_getElem?
  intro j
  by_cases hj : v = j
  · subst hj; rw [List.getElem?_set_self hv, List.getElem?_eq_getElem hv]; rfl
  · rw [List.getElem?_set_ne hj]
/-! ### texts by their signs -/
abbrev ofC (l : List Nat) : Str := ⟨l.toArray⟩
theorem ofC_len (l : List Nat) : (ofC l).length = l.length := by
  show l.toArray.size = _
  simp
theorem ofC_app (a b : List Nat) : ofC a ++ ofC b = ofC (a ++ b) := by
  show (⟨a.toArray ++ b.toArray⟩ : Str) = ⟨(a ++ b).toArray⟩
  rw [List.append_toArray]
theorem addC {a b : List Nat} (h : a.length + b.length ≤ 16000000) : addD (.str (ofC a)) (.str (ofC b)) = some (.str (ofC (a ++ b))) := by
  show (if (ofC a).length + (ofC b).length ≤ sizeLine then some (D.str (ofC a ++ ofC b)) else none) = _
  rw [ofC_len, ofC_len, if_pos (by rw [sizeLine_eq]; omega), ofC_app]
theorem lenC {a : List Nat} (h : a.length ≤ 16000000) : lenD (.str (ofC a)) = some (.int (a.length : Nat)) := by
  show (if (ofC a).length ≤ sizeLine then some (D.int ((ofC a).length : Nat)) else none) = _
  rw [ofC_len, if_pos (by rw [sizeLine_eq]; omega)]
theorem seqC (a : List Nat) : seqD (.str (ofC a)) = some (a.map fun c => D.str (ofC [c])) := by
  show some ((a.toArray.toList).map fun c => D.str ⟨#[c]⟩) = _
  rw [List.toList_toArray]
theorem sliceC {a : List Nat} (h : a.length ≤ 16000000) (lo hi : Option Int) : slD3 (.str (ofC a)) lo hi = some (.str (ofC (cutL a lo hi))) := by
  show (if (ofC a).length ≤ sizeLine then some (D.str ⟨(cutL a.toArray.toList lo hi).toArray⟩) else none) = _
  rw [ofC_len, if_pos (by rw [sizeLine_eq]; omega), List.toList_toArray]
theorem ixC {a : List Nat} {i c : Nat} (hl : a.length ≤ 16000000) (h : a[i]? = some c) : ixD (.str (ofC a)) (.int (i : Int)) = some (.str (ofC [c])) := by
  have hi := (List.getElem?_eq_some_iff.mp h).1
  show (if (ofC a).length ≤ sizeLine then (ixI (ofC a).length (i : Int)).bind fun j => (a.toArray.toList[j]?).map fun c => D.str ⟨#[c]⟩ else none) = _
  rw [ofC_len, if_pos (by rw [sizeLine_eq]; omega), ixI_nn (by omega) (by omega), List.toList_toArray, Int.toNat_natCast]
  show (a[i]?).map _ = _
  rw [h]
  rfl
theorem ofC_ne {a b : Nat} : neD (.str (ofC [a])) (.str (ofC [b])) = some (.bl (!decide (a = b))) := by
  show some (D.bl (!decide (ofC [a] = ofC [b]))) = _
  congr 3
  by_cases h : a = b
  · subst h; simp
  · simp [h]
theorem ofC_eq {a b : Nat} : eqD (.str (ofC [a])) (.str (ofC [b])) = some (.bl (decide (a = b))) := by
  show some (D.bl (decide (ofC [a] = ofC [b]))) = _
  congr 2
  by_cases h : a = b
  · subst h; simp
  · simp [h]
/-! ### parts -/
theorem cut_to {α : Type} (l : List α) {i : Nat} (h : i ≤ l.length) : cutL l none (some (i : Int)) = l.take i := by
  unfold cutL
  have : HT.sIx l.length l.length (some (i : Int)) = i := by rw [HT.sIx_nat]; omega
  rw [this]
  show (l.drop 0).take (i - 0) = _
  simp
theorem cut_from {α : Type} (l : List α) {i : Nat} (h : i ≤ l.length) : cutL l (some (i : Int)) none = l.drop i := by
  unfold cutL
  have : HT.sIx l.length 0 (some (i : Int)) = i := by rw [HT.sIx_nat]; omega
  rw [this]
  show (l.drop i).take (l.length - i) = _
  rw [List.take_of_length_le (by rw [List.length_drop]; exact Nat.le_refl _)]
theorem cut_mid {α : Type} (l : List α) {i j : Nat} (h : i ≤ j) (hj : j ≤ l.length) : cutL l (some (i : Int)) (some (j : Int)) = (l.drop i).take (j - i) := by
  unfold cutL
  have h1 : HT.sIx l.length 0 (some (i : Int)) = i := by rw [HT.sIx_nat]; omega
  have h2 : HT.sIx l.length l.length (some (j : Int)) = j := by rw [HT.sIx_nat]; omega
  rw [h1, h2]
/-! ### joined texts -/
theorem foldl_glue : ∀ (ls : List (List Nat)) (acc : Array Nat), (ls.map ofC).foldl (fun acc p => acc ++ (Str.ofString "").cps ++ p.cps) acc = acc ++ ls.flatten.toArray
  | [], acc => by simp
  | l :: ls, acc => by
    have e : (Str.ofString "").cps = #[] := by decide +kernel
    show (ls.map ofC).foldl _ (acc ++ (Str.ofString "").cps ++ l.toArray) = _
    rw [foldl_glue ls, e]
    simp
theorem glue_ofC (ls : List (List Nat)) : Txt.join "" (ls.map ofC) = ofC ls.flatten := by
  cases ls with
  | nil => rfl
  | cons l ls =>
    show (⟨(ls.map ofC).foldl (fun acc p => acc ++ (Str.ofString "").cps ++ p.cps) l.toArray⟩ : Str) = _
    rw [foldl_glue]
    first | done | simp
theorem joinC {ls : List (List Nat)} (h : ls.flatten.length ≤ 16000000) : joinD (.str "") (.lst (ls.map fun l => D.str (ofC l))) = some (.str (ofC ls.flatten)) := by
  have e : (ls.map fun l => D.str (ofC l)) = (ls.map ofC).map D.str := by rw [List.map_map]; rfl
  show joinB "" (ls.map fun l => D.str (ofC l)) = _
  rw [e]
  unfold joinB
  rw [strsOf_map]
  have h1 : ((ls.map ofC).map (·.length)).sum = ls.flatten.length := by
    rw [List.map_map, List.length_flatten]
    congr 1
    try (apply List.map_congr_left; intro l _; exact ofC_len l)
  have h2 : (Str.ofString "").length = 0 := by decide +kernel
  show (if ((ls.map ofC).map (·.length)).sum + (ls.map ofC).length * (Str.ofString "").length ≤ 16777216 then some (D.str (Txt.join "" (ls.map ofC))) else none) = _
  rw [h1, h2, if_pos (by omega), glue_ofC]
end Dv
namespace K02
/-! ### sums that tell change, plainly: registers of w bits, pattern p -/
def stp (w p r b : Nat) : Nat := if r / 2 ^ (w - 1) ≠ b then (2 * r % 2 ^ w) ^^^ p else 2 * r % 2 ^ w
def crc (w p r : Nat) (bs : List Nat) : Nat := bs.foldl (stp w p) r
/-- the n lowest bits, the highest first -/
def bitsN (v : Nat) : Nat → List Nat
  | 0 => []
  | n + 1 => v / 2 ^ n % 2 :: bitsN v n
theorem bitsN_len (v : Nat) : ∀ n, (bitsN v n).length = n
  | 0 => rfl
  | n + 1 => by
    show (bitsN v n).length + 1 = n + 1
    rw [bitsN_len]
theorem bitsN_lt (v : Nat) : ∀ n, ∀ b ∈ bitsN v n, b < 2
  | 0, b, h => by cases h
  | n + 1, b, h => by
    rcases List.mem_cons.mp h with rfl | h
    · exact Nat.mod_lt _ (by decide)
    · exact bitsN_lt v n b h
theorem bitsN_get (v : Nat) : ∀ n i, i < n → (bitsN v n)[i]? = some (v / 2 ^ (n - 1 - i) % 2)
  | 0, i, h => by omega
  | n + 1, 0, h => by
    show some _ = _
    rw [show n + 1 - 1 - 0 = n by omega]
  | n + 1, i + 1, h => by
    show (bitsN v n)[i]? = _
    rw [bitsN_get v n i (by omega), show n + 1 - 1 - (i + 1) = n - 1 - i by omega]
/-- the pattern fits and is odd -/
structure Wp (w p : Nat) : Prop where
  w0 : 0 < w
  lt : p < 2 ^ w
  odd : p % 2 = 1
section
variable {w p : Nat}
theorem two_w (h : 0 < w) : 2 ^ w = 2 * 2 ^ (w - 1) := by
  rw [← Nat.pow_succ', show (w - 1).succ = w by omega]
theorem stp_lt (h : Wp w p) (r b : Nat) : stp w p r b < 2 ^ w := by
  unfold stp
  have h1 : 2 * r % 2 ^ w < 2 ^ w := Nat.mod_lt _ (Nat.two_pow_pos w)
  split
  · exact Nat.xor_lt_two_pow h1 h.lt
  · exact h1
theorem crc_lt (h : Wp w p) : ∀ (bs : List Nat) (r : Nat), r < 2 ^ w → crc w p r bs < 2 ^ w
  | [], r, hr => hr
  | b :: bs, r, _ => crc_lt h bs _ (stp_lt h r b)
theorem top_lt (h : 0 < w) {r : Nat} (hr : r < 2 ^ w) : r / 2 ^ (w - 1) < 2 := by
  rw [two_w h] at hr
  exact Nat.div_lt_of_lt_mul (by rw [Nat.mul_comm]; exact hr)
theorem stp_xor (h : Wp w p) {r s b c : Nat} (hr : r < 2 ^ w) (hs : s < 2 ^ w) (hb : b < 2) (hc : c < 2) : stp w p (r ^^^ s) (b ^^^ c) = stp w p r b ^^^ stp w p s c := by
  unfold stp
  have e1 : (r ^^^ s) / 2 ^ (w - 1) = (r / 2 ^ (w - 1)) ^^^ (s / 2 ^ (w - 1)) := by
    rw [← Nat.shiftRight_eq_div_pow, ← Nat.shiftRight_eq_div_pow, ← Nat.shiftRight_eq_div_pow, Nat.shiftRight_xor_distrib]
  have e2 : 2 * (r ^^^ s) % 2 ^ w = (2 * r % 2 ^ w) ^^^ (2 * s % 2 ^ w) := by
    rw [← Nat.xor_mod_two_pow]
    congr 1
    have := Nat.shiftLeft_xor_distrib (a := r) (b := s) (i := 1)
    simpa [Nat.shiftLeft_eq, Nat.mul_comm] using this
  rw [e1, e2]
  generalize 2 * r % 2 ^ w = x
  generalize 2 * s % 2 ^ w = y
  have t1 := top_lt h.w0 hr
  have t2 := top_lt h.w0 hs
  generalize r / 2 ^ (w - 1) = t at t1
  generalize s / 2 ^ (w - 1) = u at t2
  have two : ∀ n, n < 2 → n = 0 ∨ n = 1 := fun n hn => by omega
  have a1 : (x ^^^ p) ^^^ (y ^^^ p) = x ^^^ y := by
    rw [Nat.xor_assoc, Nat.xor_comm y p, ← Nat.xor_assoc p p, Nat.xor_self, Nat.zero_xor]
  have a2 : x ^^^ (y ^^^ p) = (x ^^^ y) ^^^ p := by rw [Nat.xor_assoc]
  have a3 : (x ^^^ p) ^^^ y = (x ^^^ y) ^^^ p := by rw [Nat.xor_assoc, Nat.xor_comm p y, ← Nat.xor_assoc]
  rcases two t t1 with rfl | rfl <;> rcases two u t2 with rfl | rfl <;> rcases two b hb with rfl | rfl <;> rcases two c hc with rfl | rfl <;> simp [a1, a2, a3]
/-- two texts of bits laid over each other -/
def xors : List Nat → List Nat → List Nat
  | b :: bs, c :: cs => (b ^^^ c) :: xors bs cs
  | _, _ => []
theorem crc_xor (h : Wp w p) : ∀ (bs cs : List Nat) (r s : Nat), bs.length = cs.length → (∀ b ∈ bs, b < 2) → (∀ c ∈ cs, c < 2) → r < 2 ^ w → s < 2 ^ w → crc w p (r ^^^ s) (xors bs cs) = crc w p r bs ^^^ crc w p s cs
  | [], [], r, s, _, _, _, _, _ => rfl
  | [], _ :: _, r, s, hl, _, _, _, _ => by simp at hl
  | _ :: _, [], r, s, hl, _, _, _, _ => by simp at hl
  | b :: bs, c :: cs, r, s, hl, hb, hc, hr, hs => by
    show crc w p (stp w p (r ^^^ s) (b ^^^ c)) (xors bs cs) = crc w p (stp w p r b) bs ^^^ crc w p (stp w p s c) cs
    rw [stp_xor h hr hs (hb b List.mem_cons_self) (hc c List.mem_cons_self)]
    exact crc_xor h bs cs _ _ (by simpa using hl) (fun x hx => hb x (List.mem_cons_of_mem _ hx)) (fun x hx => hc x (List.mem_cons_of_mem _ hx)) (stp_lt h r b) (stp_lt h s c)
theorem crc_app (bs cs : List Nat) (r : Nat) : crc w p r (bs ++ cs) = crc w p (crc w p r bs) cs := List.foldl_append
abbrev zs (n : Nat) : List Nat := List.replicate n 0
theorem zs_lt (n : Nat) : ∀ b ∈ zs n, b < 2 := fun b hb => by
  rw [List.eq_of_mem_replicate hb]
  decide
theorem xors_zs : ∀ (bs : List Nat), xors (zs bs.length) bs = bs
  | [] => rfl
  | b :: bs => by
    show (0 ^^^ b) :: xors (zs bs.length) bs = _
    rw [Nat.zero_xor, xors_zs]
/-- the register's part and the bits' part -/
theorem crc_split (h : Wp w p) {r : Nat} (hr : r < 2 ^ w) {bs : List Nat} (hb : ∀ b ∈ bs, b < 2) : crc w p r bs = crc w p r (zs bs.length) ^^^ crc w p 0 bs := by
  have := crc_xor h (zs bs.length) bs r 0 (by rw [List.length_replicate]) (zs_lt _) hb hr (Nat.two_pow_pos w)
  rw [xors_zs, Nat.xor_zero] at this
  exact this
theorem crc_zero (h : Wp w p) : ∀ n, crc w p 0 (zs n) = 0
  | 0 => rfl
  | n + 1 => by
    show crc w p (stp w p 0 0) (zs n) = 0
    have : stp w p 0 0 = 0 := by unfold stp; simp
    rw [this]
    exact crc_zero h n
theorem stp_ne (h : Wp w p) {r : Nat} (hr : r < 2 ^ w) (h0 : r ≠ 0) : stp w p r 0 ≠ 0 := by
  unfold stp
  split
  · intro e
    have h1 : (2 * r % 2 ^ w) ^^^ p = 0 := e
    have h2 : 2 * r % 2 ^ w = p := by
      have := congrArg (· ^^^ p) h1
      simpa [Nat.xor_assoc] using this
    have h3 : (2 * r % 2 ^ w) % 2 = 0 := by
      rw [two_w h.w0, Nat.mul_mod_mul_left]
      omega
    have := h.odd
    omega
  · rename_i ht
    have ht' : r / 2 ^ (w - 1) = 0 := by simpa using ht
    have h1 : r < 2 ^ (w - 1) := by
      rcases Nat.div_eq_zero_iff.mp ht' with z | z
      · have := Nat.two_pow_pos (w - 1); omega
      · exact z
    have h2 := two_w h.w0
    rw [Nat.mod_eq_of_lt (by omega)]
    omega
theorem crc_ne (h : Wp w p) : ∀ (n r : Nat), r < 2 ^ w → r ≠ 0 → crc w p r (zs n) ≠ 0
  | 0, r, _, h0 => h0
  | n + 1, r, hr, h0 => crc_ne h n _ (stp_lt h r 0) (stp_ne h hr h0)
/-- a register's own bits put it out -/
theorem crc_own (h : Wp w p) : ∀ (n c : Nat), n ≤ w → c < 2 ^ n → crc w p (c * 2 ^ (w - n)) (bitsN c n) = 0
  | 0, c, _, hc => by
    have : c = 0 := by simpa using hc
    subst this
    show 0 * _ = 0
    rw [Nat.zero_mul]
  | n + 1, c, hn, hc => by
    show crc w p (stp w p (c * 2 ^ (w - (n + 1))) (c / 2 ^ n % 2)) (bitsN c n) = 0
    have hq : c / 2 ^ n < 2 := Nat.div_lt_of_lt_mul (by rw [Nat.pow_succ] at hc; exact hc)
    have e0 : c * 2 ^ (w - (n + 1)) / 2 ^ (w - 1) = c / 2 ^ n := by
      rw [show w - 1 = n + (w - (n + 1)) by omega, Nat.pow_add, ← Nat.div_div_eq_div_mul, Nat.div_div_eq_div_mul, Nat.mul_comm (2 ^ n), ← Nat.div_div_eq_div_mul, Nat.mul_div_cancel _ (Nat.two_pow_pos _)]
    have e1 : 2 * (c * 2 ^ (w - (n + 1))) % 2 ^ w = (c % 2 ^ n) * 2 ^ (w - n) := by
      have : 2 * (c * 2 ^ (w - (n + 1))) = c * 2 ^ (w - n) := by
        rw [show w - n = (w - (n + 1)) + 1 by omega, Nat.pow_succ, Nat.mul_comm 2 (c * _), Nat.mul_assoc]
      rw [this]
      have e : 2 ^ w = 2 ^ n * 2 ^ (w - n) := by rw [← Nat.pow_add, show n + (w - n) = w by omega]
      rw [e, Nat.mul_mod_mul_right]
    have e2 : stp w p (c * 2 ^ (w - (n + 1))) (c / 2 ^ n % 2) = (c % 2 ^ n) * 2 ^ (w - n) := by
      unfold stp
      rw [e0, Nat.mod_eq_of_lt hq, if_neg (by simp), e1]
    rw [e2]
    have e3 : bitsN c n = bitsN (c % 2 ^ n) n := by
      have : ∀ m, m ≤ n → bitsN c m = bitsN (c % 2 ^ n) m := by
        intro m
        induction m with
        | zero => intro _; rfl
        | succ m ih =>
          intro hm
          show c / 2 ^ m % 2 :: bitsN c m = (c % 2 ^ n) / 2 ^ m % 2 :: bitsN (c % 2 ^ n) m
          rw [ih (by omega)]
          congr 1
          have e : 2 ^ n = 2 ^ (m + 1) * 2 ^ (n - (m + 1)) := by rw [← Nat.pow_add, show m + 1 + (n - (m + 1)) = n by omega]
          have key : c / 2 ^ m % 2 = c % 2 ^ (m + 1) / 2 ^ m := by
            rw [Nat.pow_succ, Nat.mod_mul_right_div_self]
          have key2 : (c % 2 ^ n) / 2 ^ m % 2 = (c % 2 ^ n) % 2 ^ (m + 1) / 2 ^ m := by
            rw [Nat.pow_succ, Nat.mod_mul_right_div_self]
          rw [key, key2, e, Nat.mod_mul_right_mod]
      exact this n (Nat.le_refl n)
    rw [e3]
    exact crc_own h n (c % 2 ^ n) (by omega) (Nat.mod_lt _ (Nat.two_pow_pos n))
/-- a burst no longer than the register is told -/
theorem crc_burst (h : Wp w p) {n c a b : Nat} (hn : n ≤ w) (hc : c < 2 ^ n) (h0 : c ≠ 0) : crc w p 0 (zs a ++ bitsN c n ++ zs b) ≠ 0 := by
  rw [crc_app, crc_app, crc_zero h]
  have hr : c * 2 ^ (w - n) < 2 ^ w := by
    have e : 2 ^ w = 2 ^ n * 2 ^ (w - n) := by rw [← Nat.pow_add, show n + (w - n) = w by omega]
    rw [e]
    exact Nat.mul_lt_mul_of_pos_right hc (Nat.two_pow_pos _)
  have h1 := crc_split h hr (bs := bitsN c n) (bitsN_lt c n)
  rw [crc_own h n c hn hc] at h1
  have h2 : crc w p 0 (bitsN c n) = crc w p (c * 2 ^ (w - n)) (zs (bitsN c n).length) := by
    have := congrArg (crc w p (c * 2 ^ (w - n)) (zs (bitsN c n).length) ^^^ ·) h1
    simp only [Nat.xor_zero, ← Nat.xor_assoc, Nat.xor_self, Nat.zero_xor] at this
    exact this.symm
  rw [h2]
  have hne : c * 2 ^ (w - n) ≠ 0 := Nat.mul_ne_zero h0 (by have := Nat.two_pow_pos (w - n); omega)
  exact crc_ne h _ _ (crc_lt h _ _ hr) (crc_ne h _ _ hr hne)
end
end K02
namespace K02
open PySem PySem.Spec PyProof.Rows L2 Dv
def topS (i : Nat) : Stmt := PySem.Challenge.pw_psaltery_k02_whole_sums_that_tell_change.main.body.getD i (.Pass ⟨0, 0, 0, 0⟩)
def q_law_draws : Df := ⟨"_law_draws", ["cell", "count", "rest", "digits", "seed", "draws", "k", "mixed"], 2, topS 15⟩
def q_law_sum : Df := ⟨"_law_sum", ["row", "width", "pattern", "now", "byte", "place", "top"], 3, topS 20⟩
def q_law_cell : Df := ⟨"_law_cell", ["script", "k"], 2, topS 14⟩
def q_law_is_integer : Df := ⟨"_law_is_integer", ["value"], 1, topS 16⟩
def q_law_is : Df := ⟨"_law_is", ["value", "due", "at"], 2, topS 17⟩
def q_law_fixed : Df := ⟨"_law_fixed", ["v", "n", "place"], 2, topS 18⟩
def q_stepped : Df := ⟨"stepped", ["now", "bit", "width", "pattern", "top"], 4, topS 7⟩
def q_joined_great_sum : Df := ⟨"joined_great_sum", ["first", "second", "size", "_"], 3, topS 11⟩
def q_law_whole_bytes : Df := ⟨"_law_whole_bytes", ["bits", "row", "at", "byte", "sign"], 1, topS 19⟩
def q_sum_of : Df := ⟨"sum_of", ["bits", "width", "pattern", "now", "bit"], 3, topS 8⟩
def q_fixed : Df := ⟨"fixed", ["v", "n", "place"], 2, topS 1⟩
def q_bits_of : Df := ⟨"bits_of", ["row", "byte"], 1, topS 3⟩
def q_small_sum : Df := ⟨"small_sum", ["row"], 1, topS 9⟩
def q_great_sum : Df := ⟨"great_sum", ["row"], 1, topS 10⟩
def q_sum_bytes : Df := ⟨"sum_bytes", ["row", "whole"], 1, topS 12⟩
def q_law_summed : Df := ⟨"_law_summed", ["row", "whole"], 1, topS 21⟩
def q_law : Df := ⟨"law", ["script", "k", "draws", "row", "small", "great", "cut", "first", "bits", "turn", "wide", "change", "at", "bent", "other", "byte", "one"], 1, topS 22⟩
def T0 : Tab := ⟨[], [("SMALL", .int (7)), ("GREAT", .int (32773))], ["abs", "all", "bool", "int", "isinstance", "len", "range", "str", "tuple"]⟩
def T1 : Tab := extT T0 q_law_draws
def T2 : Tab := extT T1 q_law_sum
def T3 : Tab := extT T2 q_law_cell
def T4 : Tab := extT T3 q_law_is_integer
def T5 : Tab := extT T4 q_law_is
def T6 : Tab := extT T5 q_law_is
def T7 : Tab := extT T6 q_law_is
def T8 : Tab := extT T7 q_law_is
def T9 : Tab := extT T8 q_law_fixed
def T10 : Tab := extT T9 q_stepped
def T11 : Tab := extT T10 q_joined_great_sum
def T12 : Tab := extT T11 q_law_whole_bytes
def T13 : Tab := extT T12 q_sum_of
def T14 : Tab := extT T13 q_fixed
def T15 : Tab := extT T14 q_bits_of
def T16 : Tab := extT T15 q_small_sum
def T17 : Tab := extT T16 q_great_sum
def T18 : Tab := extT T17 q_sum_bytes
def T19 : Tab := extT T18 q_law_summed
abbrev qs : List Df := [q_law_draws, q_law_sum, q_law_cell, q_law_is_integer, q_law_is, q_law_is, q_law_is, q_law_is, q_law_fixed, q_stepped, q_joined_great_sum, q_law_whole_bytes, q_sum_of, q_fixed, q_bits_of, q_small_sum, q_great_sum, q_sum_bytes, q_law_summed]
theorem tab_eq : mkTab T0 qs = T19 := rfl
def f_law_draws : Fn := semOf T0 q_law_draws
theorem e_law_draws : f_law_draws = runB 8
    (seqS (asgS 2 (opM (f1 absD) [.ex (opM (f1 intD) [.va 0])]) true)
    (seqS (asgS 3 (opM (f2 (cmpD .GtE)) [.va 2, .ex (opM (f2 powD) [.ex (retM (.int 10)), .ex (retM (.int 18))])]) true)
    (seqS (asgS 4 (varM 2) false)
    (seqS (asgS 5 (lstM []) true)
    (seqS (forS (opI rng1 [.va 1]) (.nm 6)
      (ifS (andM (truM (.va 3)) (boolM (opM (f2 (cmpD .Gt)) [.va 2, .ex (retM (.int 0))])))
        (seqS (appS 5 (opM (f2 modD) [.ex (opM (f1 intD) [.va 2]), .ex (retM (.int 5040))]))
        (asgS 2 (opM (f2 fdivD) [.va 2, .ex (retM (.int 5040))]) true))
        (seqS (asgS 7 (opM (f2 modD) [.ex (opM (f1 intD) [.ex (opM (f2 addD) [.ex (opM (f2 addD) [.ex (opM (f2 mulD) [.va 4, .ex (retM (.int 48271))]), .ex (opM (f2 mulD) [.ex (opM (f2 addD) [.va 6, .ex (retM (.int 1))]), .ex (retM (.int 69621))])]), .ex (retM (.int 11))])]), .ex (retM (.int 2147483647))]) true)
        (seqS (asgS 7 (opM (f2 modD) [.ex (opM (f1 intD) [.ex (opM (f2 addD) [.ex (opM (f2 mulD) [.va 7, .va 7]), .ex (opM (f2 mulD) [.ex (retM (.int 40692)), .ex (opM (f2 addD) [.va 6, .ex (retM (.int 3))])])])]), .ex (retM (.int 2147483399))]) true)
        (appS 5 (opM (f2 modD) [.ex (opM (f1 intD) [.ex (opM (f2 fdivD) [.va 7, .ex (retM (.int 64))])]), .ex (retM (.int 5040))]))))))
    (retV 5)))))) := by kernel_rfl
def f_law_sum : Fn := semOf T1 q_law_sum
theorem e_law_sum : f_law_sum = runB 7
    (seqS (asgS 3 (retM (.int 0)) false)
    (seqS (forS (seqM (varM 0)) (.nm 4)
      (forS (seqM (tupM [(retM (.int 7)), (retM (.int 6)), (retM (.int 5)), (retM (.int 4)), (retM (.int 3)), (retM (.int 2)), (retM (.int 1)), (retM (.int 0))])) (.nm 5)
        (seqS (asgS 6 (opM (f2 andD) [.ex (opM (f2 shrD) [.va 3, .ex (opM (f2 subD) [.va 1, .ex (retM (.int 1))])]), .ex (retM (.int 1))]) true)
        (seqS (asgS 3 (opM (f2 andD) [.ex (opM (f2 shlD) [.va 3, .ex (retM (.int 1))]), .ex (opM (f2 subD) [.ex (opM (f2 shlD) [.ex (retM (.int 1)), .va 1]), .ex (retM (.int 1))])]) true)
        (ifS (boolM (opM (f2 (cmpD .NotEq)) [.va 6, .ex (opM (f2 andD) [.ex (opM (f2 shrD) [.va 4, .va 5]), .ex (retM (.int 1))])]))
          (asgS 3 (opM (f2 xorD) [.va 3, .va 2]) true)
          nxS)))))
    (retV 3))) := by kernel_rfl
def f_law_cell : Fn := semOf T2 q_law_cell
theorem e_law_cell : f_law_cell = runB 2
    (seqS (ifS (boolM (opM (f2 (cmpD .Lt)) [.va 1, .ex (opM (f1 lenD) [.va 0])]))
      (retS (opM (f2 ixD) [.va 0, .va 1]) false)
      nxS)
    (retS (opM (f2 addD) [.ex (opM (f2 mulD) [.ex (retM (.int 5)), .va 1]), .ex (retM (.int 3))]) true)) := by kernel_rfl
def f_law_is_integer : Fn := semOf T3 q_law_is_integer
theorem e_law_is_integer : f_law_is_integer = runB 1
    (retS (andV (opM (f1 (isiD "int")) [.va 0]) (tvM (notM (truM (.ex (opM (f1 (isiD "bool")) [.va 0])))))) false) := by kernel_rfl
def f_law_is_1 : Fn := semOf T4 q_law_is
-- _law_is: no reading: call _law_is
def f_law_is_2 : Fn := semOf T5 q_law_is
theorem e_law_is_2 : f_law_is_2 = runB 3
    (seqS (ifS (boolM (opM (f2 (cmpD .Is)) [.va 1, .ex (retM (.non))]))
      (retS (opM (f2 (cmpD .Is)) [.va 0, .ex (retM (.non))]) true)
      nxS)
    (seqS (ifS (truM (.ex (opM (f1 (isiD "bool")) [.va 1])))
      (retS (andV (opM (f1 (isiD "bool")) [.va 0]) (opM (f2 (cmpD .Eq)) [.va 0, .va 1])) false)
      nxS)
    (seqS (ifS (truM (.ex (opM (f1 (isiD "int")) [.va 1])))
      (retS (andV (callM f_law_is_integer [.va 0]) (opM (f2 (cmpD .Eq)) [.va 0, .va 1])) false)
      nxS)
    (seqS (ifS (truM (.ex (opM (f1 (isiD "str")) [.va 1])))
      (retS (andV (opM (f1 (isiD "str")) [.va 0]) (opM (f2 (cmpD .Eq)) [.va 0, .va 1])) false)
      nxS)
    (seqS (ifS (orM (notM (truM (.ex (opM (f1 (isiD "tuple")) [.va 0])))) (boolM (opM (f2 (cmpD .NotEq)) [.ex (opM (f1 lenD) [.va 0]), .ex (opM (f1 lenD) [.va 1])])))
      (retS (retM (.bl false)) false)
      nxS)
    (retS (opM (f1 allD) [.ex (compM (opI rng1 [.ex (opM (f1 lenD) [.va 1])]) [2] (.nm 2) yesM (callM f_law_is_1 [.ex (opM (f2 ixD) [.va 0, .va 2]), .ex (opM (f2 ixD) [.va 1, .va 2])]))]) true)))))) := by kernel_rfl
def f_law_is_3 : Fn := semOf T6 q_law_is
theorem e_law_is_3 : f_law_is_3 = runB 3
    (seqS (ifS (boolM (opM (f2 (cmpD .Is)) [.va 1, .ex (retM (.non))]))
      (retS (opM (f2 (cmpD .Is)) [.va 0, .ex (retM (.non))]) true)
      nxS)
    (seqS (ifS (truM (.ex (opM (f1 (isiD "bool")) [.va 1])))
      (retS (andV (opM (f1 (isiD "bool")) [.va 0]) (opM (f2 (cmpD .Eq)) [.va 0, .va 1])) false)
      nxS)
    (seqS (ifS (truM (.ex (opM (f1 (isiD "int")) [.va 1])))
      (retS (andV (callM f_law_is_integer [.va 0]) (opM (f2 (cmpD .Eq)) [.va 0, .va 1])) false)
      nxS)
    (seqS (ifS (truM (.ex (opM (f1 (isiD "str")) [.va 1])))
      (retS (andV (opM (f1 (isiD "str")) [.va 0]) (opM (f2 (cmpD .Eq)) [.va 0, .va 1])) false)
      nxS)
    (seqS (ifS (orM (notM (truM (.ex (opM (f1 (isiD "tuple")) [.va 0])))) (boolM (opM (f2 (cmpD .NotEq)) [.ex (opM (f1 lenD) [.va 0]), .ex (opM (f1 lenD) [.va 1])])))
      (retS (retM (.bl false)) false)
      nxS)
    (retS (opM (f1 allD) [.ex (compM (opI rng1 [.ex (opM (f1 lenD) [.va 1])]) [2] (.nm 2) yesM (callM f_law_is_2 [.ex (opM (f2 ixD) [.va 0, .va 2]), .ex (opM (f2 ixD) [.va 1, .va 2])]))]) true)))))) := by kernel_rfl
def f_law_is : Fn := semOf T7 q_law_is
theorem e_law_is : f_law_is = runB 3
    (seqS (ifS (boolM (opM (f2 (cmpD .Is)) [.va 1, .ex (retM (.non))]))
      (retS (opM (f2 (cmpD .Is)) [.va 0, .ex (retM (.non))]) true)
      nxS)
    (seqS (ifS (truM (.ex (opM (f1 (isiD "bool")) [.va 1])))
      (retS (andV (opM (f1 (isiD "bool")) [.va 0]) (opM (f2 (cmpD .Eq)) [.va 0, .va 1])) false)
      nxS)
    (seqS (ifS (truM (.ex (opM (f1 (isiD "int")) [.va 1])))
      (retS (andV (callM f_law_is_integer [.va 0]) (opM (f2 (cmpD .Eq)) [.va 0, .va 1])) false)
      nxS)
    (seqS (ifS (truM (.ex (opM (f1 (isiD "str")) [.va 1])))
      (retS (andV (opM (f1 (isiD "str")) [.va 0]) (opM (f2 (cmpD .Eq)) [.va 0, .va 1])) false)
      nxS)
    (seqS (ifS (orM (notM (truM (.ex (opM (f1 (isiD "tuple")) [.va 0])))) (boolM (opM (f2 (cmpD .NotEq)) [.ex (opM (f1 lenD) [.va 0]), .ex (opM (f1 lenD) [.va 1])])))
      (retS (retM (.bl false)) false)
      nxS)
    (retS (opM (f1 allD) [.ex (compM (opI rng1 [.ex (opM (f1 lenD) [.va 1])]) [2] (.nm 2) yesM (callM f_law_is_3 [.ex (opM (f2 ixD) [.va 0, .va 2]), .ex (opM (f2 ixD) [.va 1, .va 2])]))]) true)))))) := by kernel_rfl
def f_law_fixed : Fn := semOf T8 q_law_fixed
theorem e_law_fixed : f_law_fixed = runB 3
    (retS (opM (f1 (joinD (.str ""))) [.ex (compM (opI rng3 [.ex (opM (f2 subD) [.va 1, .ex (retM (.int 1))]), .ex (opM (f2 subD) [.ex (retM (.int 0)), .ex (retM (.int 1))]), .ex (opM (f2 subD) [.ex (retM (.int 0)), .ex (retM (.int 1))])]) [2] (.nm 2) yesM (iteM (truM (.ex (opM (f2 andD) [.ex (opM (f2 shrD) [.va 0, .va 2]), .ex (retM (.int 1))]))) (retM (.str "1")) (retM (.str "0"))))]) true) := by kernel_rfl
def f_stepped : Fn := semOf T9 q_stepped
theorem e_stepped : f_stepped = runB 5
    (seqS (asgS 4 (opM (f2 shrD) [.va 0, .ex (opM (f2 subD) [.va 2, .ex (retM (.int 1))])]) true)
    (seqS (asgS 0 (opM (f2 modD) [.ex (opM (f2 shlD) [.va 0, .ex (retM (.int 1))]), .ex (opM (f2 shlD) [.ex (retM (.int 1)), .va 2])]) true)
    (retS (iteM (boolM (opM (f2 (cmpD .NotEq)) [.va 4, .va 1])) (opM (f2 xorD) [.va 0, .va 3]) (varM 0)) false))) := by kernel_rfl
def f_joined_great_sum : Fn := semOf T10 q_joined_great_sum
theorem e_joined_great_sum : f_joined_great_sum = runB 4
    (seqS (forS (opI rng1 [.ex (opM (f2 mulD) [.ex (retM (.int 8)), .va 2])]) (.nm 3)
      (asgS 0 (callM f_stepped [.va 0, .ex (retM (.int 0)), .ex (retM (.int 16)), .ex (retM (.int 32773))]) true))
    (retS (opM (f2 xorD) [.va 0, .va 1]) true)) := by kernel_rfl
def f_law_whole_bytes : Fn := semOf T11 q_law_whole_bytes
theorem e_law_whole_bytes : f_law_whole_bytes = runB 5
    (seqS (asgS 0 (opM (f2 addD) [.va 0, .ex (opM (f2 mulD) [.ex (retM (.str "0")), .ex (opM (f2 modD) [.ex (opM (f2 subD) [.ex (retM (.int 0)), .ex (opM (f1 lenD) [.va 0])]), .ex (retM (.int 8))])])]) true)
    (seqS (asgS 1 (lstM []) true)
    (seqS (forS (opI rng3 [.ex (retM (.int 0)), .ex (opM (f1 lenD) [.va 0]), .ex (retM (.int 8))]) (.nm 2)
      (seqS (asgS 3 (retM (.int 0)) false)
      (seqS (forS (seqM (slB (.va 0) (.va 2) (.ex (opM (f2 addD) [.va 2, .ex (retM (.int 8))])))) (.nm 4)
        (asgS 3 (opM (f2 addD) [.ex (opM (f2 mulD) [.ex (retM (.int 2)), .va 3]), .ex (iteM (boolM (opM (f2 (cmpD .Eq)) [.va 4, .ex (retM (.str "1"))])) (retM (.int 1)) (retM (.int 0)))]) true))
      (appS 1 (varM 3)))))
    (retS (opM (f1 tupleD) [.va 1]) true)))) := by kernel_rfl
def f_sum_of : Fn := semOf T12 q_sum_of
theorem e_sum_of : f_sum_of = runB 5
    (seqS (asgS 3 (retM (.int 0)) false)
    (seqS (forS (seqM (varM 0)) (.nm 4)
      (asgS 3 (callM f_stepped [.va 3, .ex (opM (f1 intD) [.va 4]), .va 1, .va 2]) true))
    (retV 3))) := by kernel_rfl
def f_fixed : Fn := semOf T13 q_fixed
theorem e_fixed : f_fixed = runB 3
    (retS (opM (f1 (joinD (.str ""))) [.ex (compM (opI rng3 [.ex (opM (f2 subD) [.va 1, .ex (retM (.int 1))]), .ex (opM (f1 negD) [.ex (retM (.int 1))]), .ex (opM (f1 negD) [.ex (retM (.int 1))])]) [2] (.nm 2) yesM (iteM (truM (.ex (opM (f2 andD) [.ex (opM (f2 shrD) [.va 0, .va 2]), .ex (retM (.int 1))]))) (retM (.str "1")) (retM (.str "0"))))]) true) := by kernel_rfl
def f_bits_of : Fn := semOf T14 q_bits_of
theorem e_bits_of : f_bits_of = runB 2
    (retS (opM (f1 (joinD (.str ""))) [.ex (compM (seqM (varM 0)) [1] (.nm 1) yesM (callM f_fixed [.va 1, .ex (retM (.int 8))]))]) true) := by kernel_rfl
def f_small_sum : Fn := semOf T15 q_small_sum
theorem e_small_sum : f_small_sum = runB 1
    (retS (callM f_sum_of [.ex (callM f_bits_of [.va 0]), .ex (retM (.int 8)), .ex (retM (.int 7))]) true) := by kernel_rfl
def f_great_sum : Fn := semOf T16 q_great_sum
theorem e_great_sum : f_great_sum = runB 1
    (retS (callM f_sum_of [.ex (callM f_bits_of [.va 0]), .ex (retM (.int 16)), .ex (retM (.int 32773))]) true) := by kernel_rfl
def f_sum_bytes : Fn := semOf T17 q_sum_bytes
theorem e_sum_bytes : f_sum_bytes = runB 2
    (seqS (asgS 1 (callM f_great_sum [.va 0]) true)
    (retS (tupM [(opM (f2 shrD) [.va 1, .ex (retM (.int 8))]), (opM (f2 modD) [.va 1, .ex (retM (.int 256))])]) false)) := by kernel_rfl
def f_law_summed : Fn := semOf T18 q_law_summed
theorem e_law_summed : f_law_summed = runB 2
    (seqS (asgS 1 (callM f_law_sum [.va 0, .ex (retM (.int 16)), .ex (retM (.int 32773))]) true)
    (retS (opM (f2 addD) [.va 0, .ex (tupM [(opM (f2 shrD) [.va 1, .ex (retM (.int 8))]), (opM (f2 andD) [.va 1, .ex (retM (.int 255))])])]) true)) := by kernel_rfl
def f_law : Fn := semOf T19 q_law
theorem e_law : f_law = runB 17
    (seqS (forS (opI rng1 [.ex (retM (.int 3))]) (.nm 1)
      (seqS (asgS 2 (callM f_law_draws [.ex (callM f_law_cell [.va 0, .va 1]), .ex (retM (.int 70))]) true)
      (seqS (asgS 3 (opM (f1 tupleD) [.ex (compM (opI rng1 [.ex (opM (f2 modD) [.ex (opM (f1 intD) [.ex (opM (f2 ixD) [.va 2, .ex (retM (.int 0))])]), .ex (retM (.int 41))])]) [12] (.nm 12) yesM (opM (f2 modD) [.ex (opM (f1 intD) [.ex (opM (f2 ixD) [.va 2, .ex (opM (f2 addD) [.ex (retM (.int 1)), .va 12])])]), .ex (retM (.int 256))]))]) true)
      (seqS (asgS 4 (callM f_law_sum [.va 3, .ex (retM (.int 8)), .ex (retM (.int 7))]) true)
      (seqS (asgS 5 (callM f_law_sum [.va 3, .ex (retM (.int 16)), .ex (retM (.int 32773))]) true)
      (seqS (ifS (orM (notM (truM (.ex (callM f_law_is [.ex (callM f_small_sum [.va 3]), .va 4])))) (orM (notM (truM (.ex (callM f_law_is [.ex (callM f_great_sum [.va 3]), .va 5])))) (notM (truM (.ex (callM f_law_is [.ex (callM f_sum_bytes [.va 3]), .ex (tupM [(opM (f2 shrD) [.va 5, .ex (retM (.int 8))]), (opM (f2 andD) [.va 5, .ex (retM (.int 255))])])]))))))
        (retS (retM (.bl false)) false)
        nxS)
      (seqS (ifS (orM (notM (truM (.ex (callM f_law_is [.ex (callM f_small_sum [.ex (opM (f2 addD) [.va 3, .ex (tupM [(varM 4)])])]), .ex (retM (.int 0))])))) (notM (truM (.ex (callM f_law_is [.ex (callM f_great_sum [.ex (callM f_law_summed [.va 3])]), .ex (retM (.int 0))])))))
        (retS (retM (.bl false)) false)
        nxS)
      (seqS (asgS 6 (opM (f2 modD) [.ex (opM (f1 intD) [.ex (opM (f2 ixD) [.va 2, .ex (retM (.int 42))])]), .ex (opM (f2 addD) [.ex (opM (f1 lenD) [.va 3]), .ex (retM (.int 1))])]) true)
      (seqS (asgS 7 (callM f_law_sum [.ex (opM slH [.va 3, .va 6]), .ex (retM (.int 16)), .ex (retM (.int 32773))]) true)
      (seqS (ifS (notM (truM (.ex (callM f_law_is [.ex (callM f_joined_great_sum [.va 7, .ex (callM f_law_sum [.ex (opM slL [.va 3, .va 6]), .ex (retM (.int 16)), .ex (retM (.int 32773))]), .ex (opM (f2 subD) [.ex (opM (f1 lenD) [.va 3]), .va 6])]), .va 5]))))
        (retS (retM (.bl false)) false)
        nxS)
      (seqS (asgS 8 (opM (f1 (joinD (.str ""))) [.ex (compM (seqM (varM 3)) [15] (.nm 15) yesM (callM f_law_fixed [.va 15, .ex (retM (.int 8))]))]) true)
      (forS (opI rng1 [.ex (retM (.int 6))]) (.nm 9)
        (seqS (asgS 10 (opM (f2 ixD) [.ex (tupM [(retM (.int 8)), (retM (.int 16))]), .ex (opM (f2 modD) [.va 9, .ex (retM (.int 2))])]) false)
        (seqS (asgS 11 (callM f_law_fixed [.ex (opM (f2 addD) [.ex (retM (.int 1)), .ex (opM (f2 modD) [.ex (opM (f2 mulD) [.ex (opM (f1 intD) [.ex (opM (f2 ixD) [.va 2, .ex (opM (f2 addD) [.ex (retM (.int 43)), .va 9])])]), .ex (opM (f1 intD) [.ex (opM (f2 ixD) [.va 2, .ex (opM (f2 addD) [.ex (retM (.int 50)), .va 9])])])]), .ex (opM (f2 subD) [.ex (opM (f2 shlD) [.ex (retM (.int 1)), .va 10]), .ex (retM (.int 1))])])]), .va 10]) true)
        (ifS (boolM (opM (f2 (cmpD .GtE)) [.ex (opM (f1 lenD) [.va 8]), .va 10]))
          (seqS (asgS 12 (opM (f2 modD) [.ex (opM (f1 intD) [.ex (opM (f2 ixD) [.va 2, .ex (opM (f2 addD) [.ex (retM (.int 57)), .va 9])])]), .ex (opM (f2 addD) [.ex (opM (f2 subD) [.ex (opM (f1 lenD) [.va 8]), .va 10]), .ex (retM (.int 1))])]) true)
          (seqS (asgS 13 (opM (f2 addD) [.ex (opM (f2 addD) [.ex (opM slH [.va 8, .va 12]), .ex (opM (f1 (joinD (.str ""))) [.ex (compM (opI rng1 [.va 10]) [16] (.nm 16) yesM (iteM (boolM (opM (f2 (cmpD .NotEq)) [.ex (opM (f2 ixD) [.va 8, .ex (opM (f2 addD) [.va 12, .va 16])]), .ex (opM (f2 ixD) [.va 11, .va 16])])) (retM (.str "1")) (retM (.str "0"))))])]), .ex (opM slL [.va 8, .ex (opM (f2 addD) [.va 12, .va 10])])]) true)
          (seqS (asgS 14 (callM f_law_whole_bytes [.va 13]) true)
          (seqS (ifS (orM (notM (truM (.ex (callM f_law_is [.ex (callM f_great_sum [.va 14]), .ex (callM f_law_sum [.va 14, .ex (retM (.int 16)), .ex (retM (.int 32773))])])))) (boolM (opM (f2 (cmpD .Eq)) [.ex (callM f_great_sum [.va 14]), .va 5])))
            (retS (retM (.bl false)) false)
            nxS)
          (ifS (andM (boolM (opM (f2 (cmpD .Eq)) [.va 10, .ex (retM (.int 8))])) (orM (notM (truM (.ex (callM f_law_is [.ex (callM f_small_sum [.va 14]), .ex (callM f_law_sum [.va 14, .ex (retM (.int 8)), .ex (retM (.int 7))])])))) (boolM (opM (f2 (cmpD .Eq)) [.ex (callM f_small_sum [.va 14]), .va 4]))))
            (retS (retM (.bl false)) false)
            nxS)))))
          nxS)))))))))))))))
    (retS (retM (.bl true)) false)) := by kernel_rfl
end K02
namespace K02
open PySem PyProof.Rows L2 Dv
/-! ### bits as texts -/
abbrev cs (bs : List Nat) : List Nat := bs.map fun b => b + 48
abbrev bC (bs : List Nat) : D := .str (ofC (cs bs))
theorem one_C : (D.str "1") = .str (ofC [49]) := congrArg D.str (by decide +kernel)
theorem zero_C : (D.str "0") = .str (ofC [48]) := congrArg D.str (by decide +kernel)
theorem bitsN_range (v : Nat) (n : Nat) : bitsN v n = (List.range n).map fun i => v / 2 ^ (n - 1 - i) % 2 := by
  apply List.ext_getElem?
  intro i
  by_cases h : i < n
  · rw [bitsN_get v n i h, List.getElem?_map, List.getElem?_range h]
    rfl
  · rw [List.getElem?_eq_none (by rw [bitsN_len]; omega), List.getElem?_eq_none (by rw [List.length_map, List.length_range]; omega)]
theorem flat_one (bs : List Nat) : (bs.map fun b => [b + 48]).flatten = cs bs := by
  induction bs with
  | nil => rfl
  | cons b bs ih =>
    show [b + 48] ++ (bs.map fun b => [b + 48]).flatten = _
    rw [ih]
    rfl
def fxE : M D := iteM (truM (.ex (opM (f2 andD) [.ex (opM (f2 shrD) [.va 0, .va 2]), .ex (retM (.int 1))]))) (retM (.str "1")) (retM (.str "0"))
def fxF (v : Nat) : D → D
  | .int pl => .str (ofC [v / 2 ^ pl.toNat % 2 + 48])
  | _ => .non
theorem fxE_ok (v pl : Nat) (y : Sl) : fxE [.val (.int (v : Int)), y, .val (.int (pl : Int))] = .ok (fxF v (.int (pl : Int))) [.val (.int (v : Int)), y, .val (.int (pl : Int))] := by
  have h0 : (0 : Int) ≤ (pl : Int) := Int.natCast_nonneg pl
  have e : (v : Int) / 2 ^ pl % 2 = ((v / 2 ^ pl % 2 : Nat) : Int) := by simp
  have t : ∀ i : Int, truD (.int i) = some (i != 0) := fun _ => rfl
  show _ = R.ok (D.str (ofC [v / 2 ^ (pl : Int).toNat % 2 + 48])) _
  rw [Int.toNat_natCast]
  unfold fxE
  rcases Nat.mod_two_eq_zero_or_one (v / 2 ^ pl) with h | h
  · have h' : ((v : Int) / 2 ^ pl % 2 != 0) = false := by rw [e, h]; rfl
    rw [h]
    simp only [x_seqS, x_nxS, x_bkS, x_ctS, x_retS, x_retNS, x_retV, x_ifS, x_asgS, x_slotOf, x_slotOf', x_opM, x_opI, x_ev0, x_ev1, x_ev2, x_sl1, x_sl2, x_retM, x_varM, x_f1, x_f2, x_boolM, x_truM, x_notM, x_andM, x_orM, x_iteM, x_tvM, x_lstM, x_tupM, x_forS, x_whileS, x_parS, x_par0, x_par1, x_appS, x_setS, x_callM, x_cmpEq, x_cmpNe, x_cmpLt, x_cmpLe, x_cmpGt, x_cmpGe, x_cmpIs, x_cmpIn, x_eqI, x_neI, x_ltI, x_leI, x_gtI, x_geI, x_isI, x_add, x_sub, x_mul, x_mod, x_div, x_xor, x_and, x_shr, x_neg, x_abs, x_int, x_isi, x_truB, x_mutI, x_mutB, x_mutL, x_mutT, x_indI, x_indB, x_len, x_lenT, x_lenS, x_andV, x_orV, R.bind_ok, R.bind_exc, R.bind_bad, List.getElem?_cons_zero, List.getElem?_cons_succ, List.set_cons_zero, List.set_cons_succ, Option.map_some, if_true, if_false, decide_eq_true_eq, Bool.not_eq_true, decide_true, decide_false, Bool.false_eq_true, Bool.not_true, Bool.not_false, and_true, true_and, and_false, false_and, List.map_cons, List.map_nil, List.replicate, List.cons_append, List.nil_append, List.length_cons, List.length_nil, List.append_nil, reduceCtorEq, Nat.reduceSub, Nat.reduceAdd, hasOwn, List.any_cons, List.any_nil, Bool.or_false, Bool.or_true, Bool.true_or, Bool.false_or, List.isEmpty_nil, ite_self, eq_self, h0, h', Int.toNat_natCast, PyProof.Rows.bitAnd_m1, t, zero_C]
  · have h' : ((v : Int) / 2 ^ pl % 2 != 0) = true := by rw [e, h]; rfl
    rw [h]
    simp only [x_seqS, x_nxS, x_bkS, x_ctS, x_retS, x_retNS, x_retV, x_ifS, x_asgS, x_slotOf, x_slotOf', x_opM, x_opI, x_ev0, x_ev1, x_ev2, x_sl1, x_sl2, x_retM, x_varM, x_f1, x_f2, x_boolM, x_truM, x_notM, x_andM, x_orM, x_iteM, x_tvM, x_lstM, x_tupM, x_forS, x_whileS, x_parS, x_par0, x_par1, x_appS, x_setS, x_callM, x_cmpEq, x_cmpNe, x_cmpLt, x_cmpLe, x_cmpGt, x_cmpGe, x_cmpIs, x_cmpIn, x_eqI, x_neI, x_ltI, x_leI, x_gtI, x_geI, x_isI, x_add, x_sub, x_mul, x_mod, x_div, x_xor, x_and, x_shr, x_neg, x_abs, x_int, x_isi, x_truB, x_mutI, x_mutB, x_mutL, x_mutT, x_indI, x_indB, x_len, x_lenT, x_lenS, x_andV, x_orV, R.bind_ok, R.bind_exc, R.bind_bad, List.getElem?_cons_zero, List.getElem?_cons_succ, List.set_cons_zero, List.set_cons_succ, Option.map_some, if_true, if_false, decide_eq_true_eq, Bool.not_eq_true, decide_true, decide_false, Bool.false_eq_true, Bool.not_true, Bool.not_false, and_true, true_and, and_false, false_and, List.map_cons, List.map_nil, List.replicate, List.cons_append, List.nil_append, List.length_cons, List.length_nil, List.append_nil, reduceCtorEq, Nat.reduceSub, Nat.reduceAdd, hasOwn, List.any_cons, List.any_nil, Bool.or_false, Bool.or_true, Bool.true_or, Bool.false_or, List.isEmpty_nil, ite_self, eq_self, h0, h', Int.toNat_natCast, PyProof.Rows.bitAnd_m1, t, one_C]
def fxS (m1 m2 : M D) : S := retS (opM (f1 (joinD (.str ""))) [.ex (compM (opI rng3 [.ex (opM (f2 subD) [.va 1, .ex (retM (.int 1))]), .ex m1, .ex m2]) [2] (.nm 2) yesM fxE)]) true
theorem rngDown {n : Nat} (hn : n = 8 ∨ n = 16) : rng3 [.int ((n : Int) - 1), .int (-1), .int (-1)] = some (rangeL ((n : Int) - 1) n (-1)) := by
  have h : RgC ((n : Int) - 1) (-1) (-1) (Builtin.Range.rangeSize ((n : Int) - 1) (-1) (-1)).toNat ∧ (Builtin.Range.rangeSize ((n : Int) - 1) (-1) (-1)).toNat = n := by
    rcases hn with rfl | rfl <;> decide +kernel
  show (if RgC ((n : Int) - 1) (-1) (-1) (Builtin.Range.rangeSize ((n : Int) - 1) (-1) (-1)).toNat then some (rangeL ((n : Int) - 1) (Builtin.Range.rangeSize ((n : Int) - 1) (-1) (-1)).toNat (-1)) else none) = _
  rw [if_pos h.1, h.2]
theorem opI_ok {f : List D → Option (List D)} {os : List Opd} {ρ ρ1 : En} {ds zs : List D} (h1 : evO os ρ = .ok ds ρ1) (h2 : f ds = some zs) : opI f os ρ = .ok zs ρ1 := by
  unfold Dv.opI
  rw [h1]
  simp only [R.bind_ok, h2]
theorem opM_ok {f : List D → Option D} {os : List Opd} {ρ ρ1 : En} {ds : List D} {z : D} (h1 : evO os ρ = .ok ds ρ1) (h2 : f ds = some z) : opM f os ρ = .ok z ρ1 := by
  unfold opM
  rw [h1]
  simp only [R.bind_ok, h2]
theorem ev_one {m : M D} {ρ ρ1 : En} {d : D} (h : m ρ = .ok d ρ1) : evO [.ex m] ρ = .ok [d] ρ1 := by
  simp only [x_ev1, x_ev0, h, R.bind_ok]
theorem fxS_ok {m1 m2 : M D} (v n : Nat) (hn : n = 8 ∨ n = 16) (h1 : ∀ ρ, m1 ρ = .ok (.int (-1)) ρ) (h2 : ∀ ρ, m2 ρ = .ok (.int (-1)) ρ) : runB 3 (fxS m1 m2) [.int (v : Int), .int (n : Int)] = .ok (bC (bitsN v n)) := by
  have hm : opI rng3 [.ex (opM (f2 subD) [.va 1, .ex (retM (.int 1))]), .ex m1, .ex m2] [.val (.int (v : Int)), .val (.int (n : Int)), .no] = .ok (rangeL ((n : Int) - 1) n (-1)) [.val (.int (v : Int)), .val (.int (n : Int)), .no] := by
    refine opI_ok (ds := [.int ((n : Int) - 1), .int (-1), .int (-1)]) ?_ (rngDown hn)
    simp only [x_seqS, x_nxS, x_bkS, x_ctS, x_retS, x_retNS, x_retV, x_ifS, x_asgS, x_slotOf, x_slotOf', x_opM, x_opI, x_ev0, x_ev1, x_ev2, x_sl1, x_sl2, x_retM, x_varM, x_f1, x_f2, x_boolM, x_truM, x_notM, x_andM, x_orM, x_iteM, x_tvM, x_lstM, x_tupM, x_forS, x_whileS, x_parS, x_par0, x_par1, x_appS, x_setS, x_callM, x_cmpEq, x_cmpNe, x_cmpLt, x_cmpLe, x_cmpGt, x_cmpGe, x_cmpIs, x_cmpIn, x_eqI, x_neI, x_ltI, x_leI, x_gtI, x_geI, x_isI, x_add, x_sub, x_mul, x_mod, x_div, x_xor, x_and, x_shr, x_neg, x_abs, x_int, x_isi, x_truB, x_mutI, x_mutB, x_mutL, x_mutT, x_indI, x_indB, x_len, x_lenT, x_lenS, x_andV, x_orV, R.bind_ok, R.bind_exc, R.bind_bad, List.getElem?_cons_zero, List.getElem?_cons_succ, List.set_cons_zero, List.set_cons_succ, Option.map_some, if_true, if_false, decide_eq_true_eq, Bool.not_eq_true, decide_true, decide_false, Bool.false_eq_true, Bool.not_true, Bool.not_false, and_true, true_and, and_false, false_and, List.map_cons, List.map_nil, List.replicate, List.cons_append, List.nil_append, List.length_cons, List.length_nil, List.append_nil, reduceCtorEq, Nat.reduceSub, Nat.reduceAdd, hasOwn, List.any_cons, List.any_nil, Bool.or_false, Bool.or_true, Bool.true_or, Bool.false_or, List.isEmpty_nil, ite_self, eq_self, h1, h2]
  have hc := compM_ok (v := 2) (elt := fxE) (fxF v) hm rfl (by rw [rangeL, List.length_map, List.length_range]; omega) (by show 2 < 3; decide) (fun d hd => by
    obtain ⟨i, hi, e⟩ := List.mem_map.mp hd
    have hi' := List.mem_range.mp hi
    subst e
    rw [show (n : Int) - 1 + (i : Int) * (-1) = ((n - 1 - i : Nat) : Int) by omega]
    exact fxE_ok v (n - 1 - i) _)
  have hl : (rangeL ((n : Int) - 1) n (-1)).map (fxF v) = ((bitsN v n).map fun b => [b + 48]).map fun l => D.str (ofC l) := by
    rw [bitsN_range, List.map_map, List.map_map, rangeL, List.map_map]
    apply List.map_congr_left
    intro i hi
    have hi' := List.mem_range.mp hi
    show fxF v (.int ((n : Int) - 1 + (i : Int) * (-1))) = _
    rw [show (n : Int) - 1 + (i : Int) * (-1) = ((n - 1 - i : Nat) : Int) by omega]
    show D.str (ofC [v / 2 ^ (((n - 1 - i : Nat) : Int)).toNat % 2 + 48]) = _
    rw [Int.toNat_natCast]
    rfl
  rw [hl] at hc
  have hj := joinC (ls := (bitsN v n).map fun b => [b + 48]) (by rw [flat_one, List.length_map, bitsN_len]; omega)
  rw [flat_one] at hj
  refine run_of (ρ := [.val (.int (v : Int)), .val (.int (n : Int)), .no]) ?_
  have hf : opM (f1 (joinD (.str ""))) [.ex (compM (opI rng3 [.ex (opM (f2 subD) [.va 1, .ex (retM (.int 1))]), .ex m1, .ex m2]) [2] (.nm 2) yesM fxE)] [.val (.int (v : Int)), .val (.int (n : Int)), .no] = .ok (bC (bitsN v n)) [.val (.int (v : Int)), .val (.int (n : Int)), .no] := opM_ok (ev_one hc) hj
  show (opM (f1 (joinD (.str ""))) _ [.val (.int (v : Int)), .val (.int (n : Int)), .no]).bind _ = _
  rw [hf]
  rfl
theorem fixed_ok (v : Nat) : f_fixed [.int (v : Int), .int 8] = .ok (bC (bitsN v 8)) := by
  rw [e_fixed]
  exact fxS_ok v 8 (.inl rfl) (fun ρ => rfl) (fun ρ => rfl)
theorem lfixed_ok (v n : Nat) (hn : n = 8 ∨ n = 16) : f_law_fixed [.int (v : Int), .int (n : Int)] = .ok (bC (bitsN v n)) := by
  rw [e_law_fixed]
  exact fxS_ok v n hn (fun ρ => rfl) (fun ρ => rfl)
/-! ### a row's bits -/
def rb (row : List Nat) : List Nat := row.flatMap fun b => bitsN b 8
theorem rb_len : ∀ row, (rb row).length = 8 * row.length
  | [] => rfl
  | b :: row => by
    show (bitsN b 8 ++ rb row).length = _
    rw [List.length_append, bitsN_len, rb_len row, List.length_cons]
    omega
theorem rb_lt (row : List Nat) : ∀ b ∈ rb row, b < 2 := fun b hb => by
  obtain ⟨x, _, h⟩ := List.mem_flatMap.mp hb
  exact bitsN_lt x 8 b h
abbrev tI (row : List Nat) : D := .tup (row.map fun x => D.int (x : Nat))
def boF : D → D
  | .int i => bC (bitsN i.toNat 8)
  | _ => .non
theorem flat_rows (row : List Nat) : (row.map fun b => cs (bitsN b 8)).flatten = cs (rb row) := by
  induction row with
  | nil => rfl
  | cons b row ih =>
    show cs (bitsN b 8) ++ (row.map fun b => cs (bitsN b 8)).flatten = cs (bitsN b 8 ++ rb row)
    rw [ih]
    show (bitsN b 8).map _ ++ (rb row).map _ = (bitsN b 8 ++ rb row).map _
    rw [List.map_append]
/-- ''.join([f(byte, 8) for byte in row]) at slot i, by the slot v -/
theorem bits_join {f : Fn} (hf : ∀ v : Nat, f [.int (v : Int), .int 8] = .ok (bC (bitsN v 8))) {i v : Nat} {row : List Nat} {ρ : En} (hr : ρ[i]? = some (.val (tI row))) (hiv : i ≠ v) (hv : v < ρ.length) (hs : freeSlots [v] ρ = true) (hl : row.length ≤ 1000) :
    opM (f1 (joinD (.str ""))) [.ex (compM (seqM (varM i)) [v] (.nm v) yesM (callM f [.va v, .ex (retM (.int 8))]))] ρ = .ok (bC (rb row)) ρ := by
  have hm : seqM (varM i) ρ = .ok (row.map fun x => D.int (x : Nat)) ρ := by
    show (varM i ρ).bind _ = _
    rw [x_varM, hr]
    rfl
  have hc := compM_ok (v := v) (elt := callM f [.va v, .ex (retM (.int 8))]) boF hm hs (by rw [List.length_map]; omega) hv (fun d hd => by
    obtain ⟨x, _, e⟩ := List.mem_map.mp hd
    subst e
    have h := hf x
    have hg : (ρ.set v (.val (.int (x : Int))))[v]? = some (.val (.int (x : Int))) := List.getElem?_set_self hv
    generalize ρ.set v (.val (.int (x : Int))) = ρ' at hg ⊢
    simp only [x_seqS, x_nxS, x_bkS, x_ctS, x_retS, x_retNS, x_retV, x_ifS, x_asgS, x_slotOf, x_slotOf', x_opM, x_opI, x_ev0, x_ev1, x_ev2, x_sl1, x_sl2, x_retM, x_varM, x_f1, x_f2, x_boolM, x_truM, x_notM, x_andM, x_orM, x_iteM, x_tvM, x_lstM, x_tupM, x_forS, x_whileS, x_parS, x_par0, x_par1, x_appS, x_setS, x_callM, x_cmpEq, x_cmpNe, x_cmpLt, x_cmpLe, x_cmpGt, x_cmpGe, x_cmpIs, x_cmpIn, x_eqI, x_neI, x_ltI, x_leI, x_gtI, x_geI, x_isI, x_add, x_sub, x_mul, x_mod, x_div, x_xor, x_and, x_shr, x_neg, x_abs, x_int, x_isi, x_truB, x_mutI, x_mutB, x_mutL, x_mutT, x_indI, x_indB, x_len, x_lenT, x_lenS, x_andV, x_orV, R.bind_ok, R.bind_exc, R.bind_bad, List.getElem?_cons_zero, List.getElem?_cons_succ, List.set_cons_zero, List.set_cons_succ, Option.map_some, if_true, if_false, decide_eq_true_eq, Bool.not_eq_true, decide_true, decide_false, Bool.false_eq_true, Bool.not_true, Bool.not_false, and_true, true_and, and_false, false_and, List.map_cons, List.map_nil, List.replicate, List.cons_append, List.nil_append, List.length_cons, List.length_nil, List.append_nil, reduceCtorEq, Nat.reduceSub, Nat.reduceAdd, hasOwn, List.any_cons, List.any_nil, Bool.or_false, Bool.or_true, Bool.true_or, Bool.false_or, List.isEmpty_nil, ite_self, eq_self, hg, h]
    show R.ok (bC (bitsN x 8)) ρ' = R.ok (bC (bitsN (x : Int).toNat 8)) ρ'
    rw [Int.toNat_natCast])
  have hl2 : (row.map fun x => D.int (x : Nat)).map boF = (row.map fun b => cs (bitsN b 8)).map fun l => D.str (ofC l) := by
    rw [List.map_map, List.map_map]
    apply List.map_congr_left
    intro x _
    show bC (bitsN (x : Int).toNat 8) = _
    rw [Int.toNat_natCast]
    rfl
  rw [hl2] at hc
  have hj := joinC (ls := row.map fun b => cs (bitsN b 8)) (by rw [flat_rows, List.length_map, rb_len]; omega)
  rw [flat_rows] at hj
  exact opM_ok (ev_one hc) hj
theorem bits_of_ok {row : List Nat} (hl : row.length ≤ 1000) : f_bits_of [tI row] = .ok (bC (rb row)) := by
  rw [e_bits_of]
  refine run_of (ρ := [.val (tI row), .no]) ?_
  have h := bits_join (f := f_fixed) fixed_ok (i := 0) (v := 1) (row := row) (ρ := [.val (tI row), .no]) rfl (by decide) (by show 1 < 2; decide) rfl hl
  show (opM (f1 (joinD (.str ""))) _ [.val (tI row), .no]).bind _ = _
  rw [h]
  rfl
end K02
namespace K02
open PySem PyProof.Rows L2 Dv
theorem W8 : Wp 8 7 := ⟨by decide, by decide, by decide⟩
theorem W16 : Wp 16 32773 := ⟨by decide, by decide, by decide⟩
theorem shl_ok {i j : Int} (h1 : -(2 ^ 64) < i) (h2 : i < 2 ^ 64) (h3 : 0 ≤ j) (h4 : j ≤ 1000) : CShl i j := by
  refine ⟨h3, ?_⟩
  have := intBits_le_64 h1 h2
  omega
theorem gs1 (f : D → D → Option D) (r b w p t : Int) (h : f (.int r) (.int (w - 1)) = some (.int t)) : asgS 4 (opM (f2 f) [.va 0, .ex (opM (f2 subD) [.va 2, .ex (retM (.int 1))])]) true [.val (.int r), .val (.int b), .val (.int w), .val (.int p), .no] = .ok .nx [.val (.int r), .val (.int b), .val (.int w), .val (.int p), .val (.int t)] := by
  simp only [x_seqS, x_nxS, x_bkS, x_ctS, x_retS, x_retNS, x_retV, x_ifS, x_asgS, x_slotOf, x_slotOf', x_opM, x_opI, x_ev0, x_ev1, x_ev2, x_sl1, x_sl2, x_retM, x_varM, x_f1, x_f2, x_boolM, x_truM, x_notM, x_andM, x_orM, x_iteM, x_tvM, x_lstM, x_tupM, x_forS, x_whileS, x_parS, x_par0, x_par1, x_appS, x_setS, x_callM, x_cmpEq, x_cmpNe, x_cmpLt, x_cmpLe, x_cmpGt, x_cmpGe, x_cmpIs, x_cmpIn, x_eqI, x_neI, x_ltI, x_leI, x_gtI, x_geI, x_isI, x_add, x_sub, x_mul, x_mod, x_div, x_xor, x_and, x_shr, x_neg, x_abs, x_int, x_isi, x_truB, x_mutI, x_mutB, x_mutL, x_mutT, x_indI, x_indB, x_len, x_lenT, x_lenS, x_andV, x_orV, R.bind_ok, R.bind_exc, R.bind_bad, List.getElem?_cons_zero, List.getElem?_cons_succ, List.set_cons_zero, List.set_cons_succ, Option.map_some, if_true, if_false, decide_eq_true_eq, Bool.not_eq_true, decide_true, decide_false, Bool.false_eq_true, Bool.not_true, Bool.not_false, and_true, true_and, and_false, false_and, List.map_cons, List.map_nil, List.replicate, List.cons_append, List.nil_append, List.length_cons, List.length_nil, List.append_nil, reduceCtorEq, Nat.reduceSub, Nat.reduceAdd, hasOwn, List.any_cons, List.any_nil, Bool.or_false, Bool.or_true, Bool.true_or, Bool.false_or, List.isEmpty_nil, ite_self, eq_self, h]
theorem gs2 (f g : D → D → Option D) (r b w p t x y u : Int) (h1 : f (.int r) (.int 1) = some (.int x)) (h2 : f (.int 1) (.int w) = some (.int y)) (h3 : g (.int x) (.int y) = some (.int u)) :
    asgS 0 (opM (f2 g) [.ex (opM (f2 f) [.va 0, .ex (retM (.int 1))]), .ex (opM (f2 f) [.ex (retM (.int 1)), .va 2])]) true [.val (.int r), .val (.int b), .val (.int w), .val (.int p), .val (.int t)] = .ok .nx [.val (.int u), .val (.int b), .val (.int w), .val (.int p), .val (.int t)] := by
  simp only [x_seqS, x_nxS, x_bkS, x_ctS, x_retS, x_retNS, x_retV, x_ifS, x_asgS, x_slotOf, x_slotOf', x_opM, x_opI, x_ev0, x_ev1, x_ev2, x_sl1, x_sl2, x_retM, x_varM, x_f1, x_f2, x_boolM, x_truM, x_notM, x_andM, x_orM, x_iteM, x_tvM, x_lstM, x_tupM, x_forS, x_whileS, x_parS, x_par0, x_par1, x_appS, x_setS, x_callM, x_cmpEq, x_cmpNe, x_cmpLt, x_cmpLe, x_cmpGt, x_cmpGe, x_cmpIs, x_cmpIn, x_eqI, x_neI, x_ltI, x_leI, x_gtI, x_geI, x_isI, x_add, x_sub, x_mul, x_mod, x_div, x_xor, x_and, x_shr, x_neg, x_abs, x_int, x_isi, x_truB, x_mutI, x_mutB, x_mutL, x_mutT, x_indI, x_indB, x_len, x_lenT, x_lenS, x_andV, x_orV, R.bind_ok, R.bind_exc, R.bind_bad, List.getElem?_cons_zero, List.getElem?_cons_succ, List.set_cons_zero, List.set_cons_succ, Option.map_some, if_true, if_false, decide_eq_true_eq, Bool.not_eq_true, decide_true, decide_false, Bool.false_eq_true, Bool.not_true, Bool.not_false, and_true, true_and, and_false, false_and, List.map_cons, List.map_nil, List.replicate, List.cons_append, List.nil_append, List.length_cons, List.length_nil, List.append_nil, reduceCtorEq, Nat.reduceSub, Nat.reduceAdd, hasOwn, List.any_cons, List.any_nil, Bool.or_false, Bool.or_true, Bool.true_or, Bool.false_or, List.isEmpty_nil, ite_self, eq_self, h1, h2, h3]
theorem gs3 (f g : D → D → Option D) (u b w p t v : Int) (c : Bool) (h1 : f (.int t) (.int b) = some (.bl c)) (h2 : g (.int u) (.int p) = some (.int v)) :
    retS (iteM (boolM (opM (f2 f) [.va 4, .va 1])) (opM (f2 g) [.va 0, .va 3]) (varM 0)) false [.val (.int u), .val (.int b), .val (.int w), .val (.int p), .val (.int t)] = .ok (.ret (.int (if c = true then v else u))) [.val (.int u), .val (.int b), .val (.int w), .val (.int p), .val (.int t)] := by
  cases c <;> simp only [x_seqS, x_nxS, x_bkS, x_ctS, x_retS, x_retNS, x_retV, x_ifS, x_asgS, x_slotOf, x_slotOf', x_opM, x_opI, x_ev0, x_ev1, x_ev2, x_sl1, x_sl2, x_retM, x_varM, x_f1, x_f2, x_boolM, x_truM, x_notM, x_andM, x_orM, x_iteM, x_tvM, x_lstM, x_tupM, x_forS, x_whileS, x_parS, x_par0, x_par1, x_appS, x_setS, x_callM, x_cmpEq, x_cmpNe, x_cmpLt, x_cmpLe, x_cmpGt, x_cmpGe, x_cmpIs, x_cmpIn, x_eqI, x_neI, x_ltI, x_leI, x_gtI, x_geI, x_isI, x_add, x_sub, x_mul, x_mod, x_div, x_xor, x_and, x_shr, x_neg, x_abs, x_int, x_isi, x_truB, x_mutI, x_mutB, x_mutL, x_mutT, x_indI, x_indB, x_len, x_lenT, x_lenS, x_andV, x_orV, R.bind_ok, R.bind_exc, R.bind_bad, List.getElem?_cons_zero, List.getElem?_cons_succ, List.set_cons_zero, List.set_cons_succ, Option.map_some, if_true, if_false, decide_eq_true_eq, Bool.not_eq_true, decide_true, decide_false, Bool.false_eq_true, Bool.not_true, Bool.not_false, and_true, true_and, and_false, false_and, List.map_cons, List.map_nil, List.replicate, List.cons_append, List.nil_append, List.length_cons, List.length_nil, List.append_nil, reduceCtorEq, Nat.reduceSub, Nat.reduceAdd, hasOwn, List.any_cons, List.any_nil, Bool.or_false, Bool.or_true, Bool.true_or, Bool.false_or, List.isEmpty_nil, ite_self, eq_self, h1, h2]
theorem sh1 {r w : Nat} (hw : 0 < w) : shrD (.int (r : Int)) (.int ((w : Int) - 1)) = some (.int ((r / 2 ^ (w - 1) : Nat) : Int)) := by
  show (if (0 : Int) ≤ (w : Int) - 1 then some (D.int ((r : Int) / 2 ^ ((w : Int) - 1).toNat)) else none) = _
  rw [if_pos (by omega), show ((w : Int) - 1).toNat = w - 1 by omega, Int.natCast_ediv, Int.natCast_pow]
  rfl
theorem sh2 {r : Nat} (hr : r < 65536) : shlD (.int (r : Int)) (.int 1) = some (.int ((2 * r : Nat) : Int)) := by
  have c1 : CShl (r : Int) 1 := shl_ok (by omega) (by omega) (by decide) (by decide)
  show (if CShl (r : Int) 1 then some (D.int ((r : Int) * 2 ^ (1 : Int).toNat)) else none) = _
  rw [if_pos c1, show (r : Int) * 2 ^ (1 : Int).toNat = ((2 * r : Nat) : Int) by
    show (r : Int) * 2 ^ 1 = _
    omega]
theorem sh3 {w : Nat} (hw : w ≤ 16) : shlD (.int 1) (.int (w : Int)) = some (.int ((2 ^ w : Nat) : Int)) := by
  have c2 : CShl 1 (w : Int) := shl_ok (by decide) (by decide) (by omega) (by omega)
  show (if CShl 1 (w : Int) then some (D.int (1 * 2 ^ (w : Int).toNat)) else none) = _
  rw [if_pos c2, Int.toNat_natCast, Int.one_mul, Int.natCast_pow]
  rfl
theorem md4 (a b : Nat) (h : 0 < b) : modD (.int (a : Int)) (.int (b : Int)) = some (.int ((a % b : Nat) : Int)) := by
  show (if (0 : Int) < (b : Int) then some (D.int ((a : Int) % (b : Int))) else none) = _
  rw [if_pos (by omega), Int.natCast_emod]
theorem ne5 (t b : Nat) : cmpD .NotEq (.int (t : Int)) (.int (b : Int)) = some (.bl (decide (t ≠ b))) := by
  show some (D.bl (!decide ((t : Int) = (b : Int)))) = _
  congr 2
  by_cases h : t = b
  · subst h; simp
  · rw [decide_eq_false (show ¬ (t : Int) = (b : Int) by omega), decide_eq_true h]; rfl
theorem xr6 (a b : Nat) : xorD (.int (a : Int)) (.int (b : Int)) = some (.int ((a ^^^ b : Nat) : Int)) := by
  show some (D.int (Builtin.bitXor (a : Int) (b : Int))) = _
  rw [bxor_nat]
theorem stp_int (w p r b : Nat) : (if decide (r / 2 ^ (w - 1) ≠ b) = true then (((2 * r % 2 ^ w) ^^^ p : Nat) : Int) else ((2 * r % 2 ^ w : Nat) : Int)) = ((stp w p r b : Nat) : Int) := by
  unfold stp
  by_cases h : r / 2 ^ (w - 1) ≠ b
  · rw [if_pos h, if_pos (decide_eq_true h)]
  · rw [if_neg h, if_neg (by rw [decide_eq_false h]; decide)]
/-- one step -/
theorem stepped_sem (r b w p : Nat) (hw : 0 < w) (hw2 : w ≤ 16) (hr : r < 65536) : f_stepped [.int (r : Int), .int (b : Int), .int (w : Int), .int (p : Int)] = .ok (.int (stp w p r b : Nat)) := by
  rw [e_stepped, ← stp_int]
  refine run_of (ρ := [.val (.int ((2 * r % 2 ^ w : Nat) : Int)), .val (.int (b : Int)), .val (.int (w : Int)), .val (.int (p : Int)), .val (.int ((r / 2 ^ (w - 1) : Nat) : Int))]) ?_
  refine (seq_nx (gs1 shrD _ _ _ _ _ (sh1 hw))).trans ?_
  refine (seq_nx (gs2 shlD modD _ _ _ _ _ _ _ _ (sh2 hr) (sh3 hw2) (md4 _ _ (Nat.two_pow_pos w)))).trans ?_
  exact gs3 (cmpD .NotEq) xorD _ _ _ _ _ _ _ (ne5 _ _) (xr6 _ _)
/-- a loop over items: the state is a number in slot j -/
theorem for_acc {ty : Type} (items : List ty) (mk : ty → D) (step : Nat → ty → Nat) {v : Nat} {s : S} (st : Nat → Sl → En) (hst : ∀ a y x, (st a y).set v x = st a x) (P : Nat → Prop) (a0 : Nat) (h0 : P a0)
    (hs : ∀ a x, P a → x ∈ items → P (step a x) ∧ ∃ y, s (st a (.val (mk x))) = .ok .nx (st (step a x) y)) (y0 : Sl) : ∃ y, forL (.nm v) s (items.map mk) (st a0 y0) = .ok .nx (st (items.foldl step a0) y) := by
  induction items generalizing a0 y0 with
  | nil => exact ⟨y0, rfl⟩
  | cons x xs ih =>
    obtain ⟨p1, y1, h1⟩ := hs a0 x h0 List.mem_cons_self
    obtain ⟨y2, h2⟩ := ih (step a0 x) p1 (fun a z pa hz => hs a z pa (List.mem_cons_of_mem _ hz)) y1
    refine ⟨y2, ?_⟩
    show forL (.nm v) s (mk x :: xs.map mk) (st a0 y0) = _
    unfold forL
    show (match s ((st a0 y0).set v (.val (mk x))) with
      | .ok .nx ρ2 => forL (.nm v) s (xs.map mk) ρ2
      | .ok .ct ρ2 => forL (.nm v) s (xs.map mk) ρ2
      | .ok .bk ρ2 => .ok .nx ρ2
      | .ok (.ret d) ρ2 => .ok (.ret d) ρ2
      | .exc x ρ2 => .exc x ρ2
      | .bad => .bad) = _
    rw [hst, h1]
    exact h2
theorem int_bit {b : Nat} (h : b < 2) : Dv.intD (.str (ofC [b + 48])) = some (.int (b : Int)) := by
  have : b = 0 ∨ b = 1 := by omega
  rcases this with rfl | rfl
  · show (if (ofC [48]).length ≤ 640 then (PySem.intText? (ofC [48])).map D.int else none) = _
    have e : PySem.intText? (ofC [48]) = some 0 := by decide +kernel
    rw [e]; rfl
  · show (if (ofC [49]).length ≤ 640 then (PySem.intText? (ofC [49])).map D.int else none) = _
    have e : PySem.intText? (ofC [49]) = some 1 := by decide +kernel
    rw [e]; rfl
theorem so_body (f : Fn) (s0 : Sl) (a b w p u : Int) (z : Str) (h1 : Dv.intD (.str z) = some (.int b)) (h2 : f [.int a, .int b, .int w, .int p] = .ok (.int u)) :
    asgS 3 (callM f [.va 3, .ex (opM (f1 Dv.intD) [.va 4]), .va 1, .va 2]) true [s0, .val (.int w), .val (.int p), .val (.int a), .val (.str z)] = .ok .nx [s0, .val (.int w), .val (.int p), .val (.int u), .val (.str z)] := by
  generalize Dv.intD = g at h1 ⊢
  simp only [x_seqS, x_nxS, x_bkS, x_ctS, x_retS, x_retNS, x_retV, x_ifS, x_asgS, x_slotOf, x_slotOf', x_opM, x_opI, x_ev0, x_ev1, x_ev2, x_sl1, x_sl2, x_retM, x_varM, x_f1, x_f2, x_boolM, x_truM, x_notM, x_andM, x_orM, x_iteM, x_tvM, x_lstM, x_tupM, x_forS, x_whileS, x_parS, x_par0, x_par1, x_appS, x_setS, x_callM, x_cmpEq, x_cmpNe, x_cmpLt, x_cmpLe, x_cmpGt, x_cmpGe, x_cmpIs, x_cmpIn, x_eqI, x_neI, x_ltI, x_leI, x_gtI, x_geI, x_isI, x_add, x_sub, x_mul, x_mod, x_div, x_xor, x_and, x_shr, x_neg, x_abs, x_int, x_isi, x_truB, x_mutI, x_mutB, x_mutL, x_mutT, x_indI, x_indB, x_len, x_lenT, x_lenS, x_andV, x_orV, R.bind_ok, R.bind_exc, R.bind_bad, List.getElem?_cons_zero, List.getElem?_cons_succ, List.set_cons_zero, List.set_cons_succ, Option.map_some, if_true, if_false, decide_eq_true_eq, Bool.not_eq_true, decide_true, decide_false, Bool.false_eq_true, Bool.not_true, Bool.not_false, and_true, true_and, and_false, false_and, List.map_cons, List.map_nil, List.replicate, List.cons_append, List.nil_append, List.length_cons, List.length_nil, List.append_nil, reduceCtorEq, Nat.reduceSub, Nat.reduceAdd, hasOwn, List.any_cons, List.any_nil, Bool.or_false, Bool.or_true, Bool.true_or, Bool.false_or, List.isEmpty_nil, ite_self, eq_self, h1, h2]
theorem sum_of_ok {bs : List Nat} {w p : Nat} (h : Wp w p) (hw : w ≤ 16) (hb : ∀ b ∈ bs, b < 2) : f_sum_of [bC bs, .int (w : Int), .int (p : Int)] = .ok (.int (crc w p 0 bs : Nat)) := by
  rw [e_sum_of]
  have hp16 : 2 ^ w ≤ 65536 := by
    have := Nat.pow_le_pow_right (show 0 < 2 by decide) hw
    omega
  obtain ⟨y, hy⟩ := for_acc bs (fun b => D.str (ofC [b + 48])) (stp w p) (v := 4) (s := asgS 3 (callM f_stepped [.va 3, .ex (opM (f1 Dv.intD) [.va 4]), .va 1, .va 2]) true)
    (fun a y => [.val (bC bs), .val (.int (w : Int)), .val (.int (p : Int)), .val (.int (a : Int)), y]) (fun a y x => rfl) (fun a => a < 2 ^ w) 0 (Nat.two_pow_pos w)
    (fun a x ha hx => ⟨stp_lt h a x, _, so_body f_stepped _ (a : Int) (x : Int) (w : Int) (p : Int) (stp w p a x : Nat) (ofC [x + 48]) (int_bit (hb x hx)) (stepped_sem a x w p h.w0 hw (by omega))⟩) .no
  have hm : seqM (varM 0) [.val (bC bs), .val (.int (w : Int)), .val (.int (p : Int)), .val (.int ((0 : Nat) : Int)), .no] = .ok (bs.map fun b => D.str (ofC [b + 48])) [.val (bC bs), .val (.int (w : Int)), .val (.int (p : Int)), .val (.int ((0 : Nat) : Int)), .no] := by
    show (match seqD (bC bs) with
      | some ds => R.ok ds _
      | none => .bad) = _
    rw [seqC, List.map_map]
    rfl
  refine run_of (ρ := [.val (bC bs), .val (.int (w : Int)), .val (.int (p : Int)), .val (.int (crc w p 0 bs : Nat)), y]) ?_
  refine (seq_nx (ρ' := [.val (bC bs), .val (.int (w : Int)), .val (.int (p : Int)), .val (.int ((0 : Nat) : Int)), .no]) rfl).trans ?_
  refine (seq_nx (ρ' := [.val (bC bs), .val (.int (w : Int)), .val (.int (p : Int)), .val (.int (crc w p 0 bs : Nat)), y]) ?_).trans ?_
  · show (seqM (varM 0) _).bind _ = _
    rw [hm]
    exact hy
  · rfl
theorem call2 (f g : Fn) (x : D) (w p : Int) (y : D) (u : D) (h1 : g [x] = .ok y) (h2 : f [y, .int w, .int p] = .ok u) (hm : isMut u = false) : runB 1 (retS (callM f [.ex (callM g [.va 0]), .ex (retM (.int w)), .ex (retM (.int p))]) true) [x] = .ok u := by
  refine run_of (ρ := [.val x]) ?_
  simp only [x_seqS, x_nxS, x_bkS, x_ctS, x_retS, x_retNS, x_retV, x_ifS, x_asgS, x_slotOf, x_slotOf', x_opM, x_opI, x_ev0, x_ev1, x_ev2, x_sl1, x_sl2, x_retM, x_varM, x_f1, x_f2, x_boolM, x_truM, x_notM, x_andM, x_orM, x_iteM, x_tvM, x_lstM, x_tupM, x_forS, x_whileS, x_parS, x_par0, x_par1, x_appS, x_setS, x_callM, x_cmpEq, x_cmpNe, x_cmpLt, x_cmpLe, x_cmpGt, x_cmpGe, x_cmpIs, x_cmpIn, x_eqI, x_neI, x_ltI, x_leI, x_gtI, x_geI, x_isI, x_add, x_sub, x_mul, x_mod, x_div, x_xor, x_and, x_shr, x_neg, x_abs, x_int, x_isi, x_truB, x_mutI, x_mutB, x_mutL, x_mutT, x_indI, x_indB, x_len, x_lenT, x_lenS, x_andV, x_orV, R.bind_ok, R.bind_exc, R.bind_bad, List.getElem?_cons_zero, List.getElem?_cons_succ, List.set_cons_zero, List.set_cons_succ, Option.map_some, if_true, if_false, decide_eq_true_eq, Bool.not_eq_true, decide_true, decide_false, Bool.false_eq_true, Bool.not_true, Bool.not_false, and_true, true_and, and_false, false_and, List.map_cons, List.map_nil, List.replicate, List.cons_append, List.nil_append, List.length_cons, List.length_nil, List.append_nil, reduceCtorEq, Nat.reduceSub, Nat.reduceAdd, hasOwn, List.any_cons, List.any_nil, Bool.or_false, Bool.or_true, Bool.true_or, Bool.false_or, List.isEmpty_nil, ite_self, eq_self, h1, h2]
theorem small_ok {row : List Nat} (hl : row.length ≤ 1000) : f_small_sum [tI row] = .ok (.int (crc 8 7 0 (rb row) : Nat)) := by
  rw [e_small_sum]
  exact call2 f_sum_of f_bits_of _ 8 7 _ _ (bits_of_ok hl) (sum_of_ok W8 (by decide) (rb_lt row)) rfl
theorem great_ok {row : List Nat} (hl : row.length ≤ 1000) : f_great_sum [tI row] = .ok (.int (crc 16 32773 0 (rb row) : Nat)) := by
  rw [e_great_sum]
  exact call2 f_sum_of f_bits_of _ 16 32773 _ _ (bits_of_ok hl) (sum_of_ok W16 (by decide) (rb_lt row)) rfl
end K02
namespace K02
open PySem PyProof.Rows L2 Dv
theorem forG {ty β : Type} (items : List ty) (mk : ty → D) (step : Nat → ty → Nat) {v : Nat} {s : S} (st : Nat → β → En) (P : Nat → Prop) (a0 : Nat) (h0 : P a0) (y0 : β)
    (hs : ∀ a y x, P a → x ∈ items → P (step a x) ∧ ∃ y', s ((st a y).set v (.val (mk x))) = .ok .nx (st (step a x) y')) : P (items.foldl step a0) ∧ ∃ y, forL (.nm v) s (items.map mk) (st a0 y0) = .ok .nx (st (items.foldl step a0) y) := by
  induction items generalizing a0 y0 with
  | nil => exact ⟨h0, y0, rfl⟩
  | cons x xs ih =>
    obtain ⟨p1, y1, h1⟩ := hs a0 y0 x h0 List.mem_cons_self
    obtain ⟨p2, y2, h2⟩ := ih (step a0 x) p1 y1 (fun a y z pa hz => hs a y z pa (List.mem_cons_of_mem _ hz))
    refine ⟨p2, y2, ?_⟩
    show forL (.nm v) s (mk x :: xs.map mk) (st a0 y0) = _
    unfold forL
    show (match s ((st a0 y0).set v (.val (mk x))) with
      | .ok .nx ρ2 => forL (.nm v) s (xs.map mk) ρ2
      | .ok .ct ρ2 => forL (.nm v) s (xs.map mk) ρ2
      | .ok .bk ρ2 => .ok .nx ρ2
      | .ok (.ret d) ρ2 => .ok (.ret d) ρ2
      | .exc x ρ2 => .exc x ρ2
      | .bad => .bad) = _
    rw [h1]
    exact h2
/-! ### the law's own sums -/
theorem lb1 (f g : D → D → Option D) (w a t t2 : Int) (h1 : f (.int a) (.int (w - 1)) = some (.int t)) (h2 : g (.int t) (.int 1) = some (.int t2)) (x0 x2 x4 x5 x6 : Sl) :
    asgS 6 (opM (f2 g) [.ex (opM (f2 f) [.va 3, .ex (opM (f2 subD) [.va 1, .ex (retM (.int 1))])]), .ex (retM (.int 1))]) true [x0, .val (.int w), x2, .val (.int a), x4, x5, x6] = .ok .nx [x0, .val (.int w), x2, .val (.int a), x4, x5, .val (.int t2)] := by
  simp only [x_seqS, x_nxS, x_bkS, x_ctS, x_retS, x_retNS, x_retV, x_ifS, x_asgS, x_slotOf, x_slotOf', x_opM, x_opI, x_ev0, x_ev1, x_ev2, x_sl1, x_sl2, x_retM, x_varM, x_f1, x_f2, x_boolM, x_truM, x_notM, x_andM, x_orM, x_iteM, x_tvM, x_lstM, x_tupM, x_forS, x_whileS, x_parS, x_par0, x_par1, x_appS, x_setS, x_callM, x_cmpEq, x_cmpNe, x_cmpLt, x_cmpLe, x_cmpGt, x_cmpGe, x_cmpIs, x_cmpIn, x_eqI, x_neI, x_ltI, x_leI, x_gtI, x_geI, x_isI, x_add, x_sub, x_mul, x_mod, x_div, x_xor, x_and, x_shr, x_neg, x_abs, x_int, x_isi, x_truB, x_mutI, x_mutB, x_mutL, x_mutT, x_indI, x_indB, x_len, x_lenT, x_lenS, x_andV, x_orV, R.bind_ok, R.bind_exc, R.bind_bad, List.getElem?_cons_zero, List.getElem?_cons_succ, List.set_cons_zero, List.set_cons_succ, Option.map_some, if_true, if_false, decide_eq_true_eq, Bool.not_eq_true, decide_true, decide_false, Bool.false_eq_true, Bool.not_true, Bool.not_false, and_true, true_and, and_false, false_and, List.map_cons, List.map_nil, List.replicate, List.cons_append, List.nil_append, List.length_cons, List.length_nil, List.append_nil, reduceCtorEq, Nat.reduceSub, Nat.reduceAdd, hasOwn, List.any_cons, List.any_nil, Bool.or_false, Bool.or_true, Bool.true_or, Bool.false_or, List.isEmpty_nil, ite_self, eq_self, h1, h2]
theorem lb2 (f g : D → D → Option D) (w a x y u : Int) (h1 : f (.int a) (.int 1) = some (.int x)) (h2 : f (.int 1) (.int w) = some (.int y)) (h3 : g (.int x) (.int (y - 1)) = some (.int u)) (x0 x2 x4 x5 x6 : Sl) :
    asgS 3 (opM (f2 g) [.ex (opM (f2 f) [.va 3, .ex (retM (.int 1))]), .ex (opM (f2 subD) [.ex (opM (f2 f) [.ex (retM (.int 1)), .va 1]), .ex (retM (.int 1))])]) true [x0, .val (.int w), x2, .val (.int a), x4, x5, x6] = .ok .nx [x0, .val (.int w), x2, .val (.int u), x4, x5, x6] := by
  simp only [x_seqS, x_nxS, x_bkS, x_ctS, x_retS, x_retNS, x_retV, x_ifS, x_asgS, x_slotOf, x_slotOf', x_opM, x_opI, x_ev0, x_ev1, x_ev2, x_sl1, x_sl2, x_retM, x_varM, x_f1, x_f2, x_boolM, x_truM, x_notM, x_andM, x_orM, x_iteM, x_tvM, x_lstM, x_tupM, x_forS, x_whileS, x_parS, x_par0, x_par1, x_appS, x_setS, x_callM, x_cmpEq, x_cmpNe, x_cmpLt, x_cmpLe, x_cmpGt, x_cmpGe, x_cmpIs, x_cmpIn, x_eqI, x_neI, x_ltI, x_leI, x_gtI, x_geI, x_isI, x_add, x_sub, x_mul, x_mod, x_div, x_xor, x_and, x_shr, x_neg, x_abs, x_int, x_isi, x_truB, x_mutI, x_mutB, x_mutL, x_mutT, x_indI, x_indB, x_len, x_lenT, x_lenS, x_andV, x_orV, R.bind_ok, R.bind_exc, R.bind_bad, List.getElem?_cons_zero, List.getElem?_cons_succ, List.set_cons_zero, List.set_cons_succ, Option.map_some, if_true, if_false, decide_eq_true_eq, Bool.not_eq_true, decide_true, decide_false, Bool.false_eq_true, Bool.not_true, Bool.not_false, and_true, true_and, and_false, false_and, List.map_cons, List.map_nil, List.replicate, List.cons_append, List.nil_append, List.length_cons, List.length_nil, List.append_nil, reduceCtorEq, Nat.reduceSub, Nat.reduceAdd, hasOwn, List.any_cons, List.any_nil, Bool.or_false, Bool.or_true, Bool.true_or, Bool.false_or, List.isEmpty_nil, ite_self, eq_self, h1, h2, h3]
theorem lb3 (f g c xr : D → D → Option D) (p a b pl t s s2 u : Int) (k : Bool) (h1 : f (.int b) (.int pl) = some (.int s)) (h2 : g (.int s) (.int 1) = some (.int s2)) (h3 : c (.int t) (.int s2) = some (.bl k)) (h4 : xr (.int a) (.int p) = some (.int u)) (x0 x1 : Sl) :
    ifS (boolM (opM (f2 c) [.va 6, .ex (opM (f2 g) [.ex (opM (f2 f) [.va 4, .va 5]), .ex (retM (.int 1))])])) (asgS 3 (opM (f2 xr) [.va 3, .va 2]) true) nxS [x0, x1, .val (.int p), .val (.int a), .val (.int b), .val (.int pl), .val (.int t)] =
      .ok .nx [x0, x1, .val (.int p), .val (.int (if k = true then u else a)), .val (.int b), .val (.int pl), .val (.int t)] := by
  cases k <;> simp only [x_seqS, x_nxS, x_bkS, x_ctS, x_retS, x_retNS, x_retV, x_ifS, x_asgS, x_slotOf, x_slotOf', x_opM, x_opI, x_ev0, x_ev1, x_ev2, x_sl1, x_sl2, x_retM, x_varM, x_f1, x_f2, x_boolM, x_truM, x_notM, x_andM, x_orM, x_iteM, x_tvM, x_lstM, x_tupM, x_forS, x_whileS, x_parS, x_par0, x_par1, x_appS, x_setS, x_callM, x_cmpEq, x_cmpNe, x_cmpLt, x_cmpLe, x_cmpGt, x_cmpGe, x_cmpIs, x_cmpIn, x_eqI, x_neI, x_ltI, x_leI, x_gtI, x_geI, x_isI, x_add, x_sub, x_mul, x_mod, x_div, x_xor, x_and, x_shr, x_neg, x_abs, x_int, x_isi, x_truB, x_mutI, x_mutB, x_mutL, x_mutT, x_indI, x_indB, x_len, x_lenT, x_lenS, x_andV, x_orV, R.bind_ok, R.bind_exc, R.bind_bad, List.getElem?_cons_zero, List.getElem?_cons_succ, List.set_cons_zero, List.set_cons_succ, Option.map_some, if_true, if_false, decide_eq_true_eq, Bool.not_eq_true, decide_true, decide_false, Bool.false_eq_true, Bool.not_true, Bool.not_false, and_true, true_and, and_false, false_and, List.map_cons, List.map_nil, List.replicate, List.cons_append, List.nil_append, List.length_cons, List.length_nil, List.append_nil, reduceCtorEq, Nat.reduceSub, Nat.reduceAdd, hasOwn, List.any_cons, List.any_nil, Bool.or_false, Bool.or_true, Bool.true_or, Bool.false_or, List.isEmpty_nil, ite_self, eq_self, h1, h2, h3, h4]
theorem an1 (a : Nat) : andD (.int (a : Int)) (.int 1) = some (.int ((a % 2 : Nat) : Int)) := by
  show some (D.int (Builtin.bitAnd (a : Int) 1)) = _
  rw [bitAnd_m1, Int.natCast_emod]
  rfl
theorem anw (a w : Nat) : andD (.int (a : Int)) (.int (((2 ^ w : Nat) : Int) - 1)) = some (.int ((a % 2 ^ w : Nat) : Int)) := by
  show some (D.int (Builtin.bitAnd (a : Int) (((2 ^ w : Nat) : Int) - 1))) = _
  rw [Int.natCast_pow, show ((2 : Nat) : Int) = 2 from rfl, PySem.W.kbt_mask, Int.natCast_emod, Int.natCast_pow]
  rfl
theorem shp (b pl : Nat) : shrD (.int (b : Int)) (.int (pl : Int)) = some (.int ((b / 2 ^ pl : Nat) : Int)) := by
  show (if (0 : Int) ≤ (pl : Int) then some (D.int ((b : Int) / 2 ^ (pl : Int).toNat)) else none) = _
  rw [if_pos (by omega), Int.toNat_natCast, Int.natCast_ediv, Int.natCast_pow]
  rfl
def lsB : S := seqS (asgS 6 (opM (f2 andD) [.ex (opM (f2 shrD) [.va 3, .ex (opM (f2 subD) [.va 1, .ex (retM (.int 1))])]), .ex (retM (.int 1))]) true)
        (seqS (asgS 3 (opM (f2 andD) [.ex (opM (f2 shlD) [.va 3, .ex (retM (.int 1))]), .ex (opM (f2 subD) [.ex (opM (f2 shlD) [.ex (retM (.int 1)), .va 1]), .ex (retM (.int 1))])]) true)
        (ifS (boolM (opM (f2 (cmpD .NotEq)) [.va 6, .ex (opM (f2 andD) [.ex (opM (f2 shrD) [.va 4, .va 5]), .ex (retM (.int 1))])]))
          (asgS 3 (opM (f2 xorD) [.va 3, .va 2]) true)
          nxS))
theorem lsB_ok {w p a : Nat} (h : Wp w p) (hw : w ≤ 16) (ha : a < 2 ^ w) (b pl : Nat) (x0 x6 : Sl) : lsB [x0, .val (.int (w : Int)), .val (.int (p : Int)), .val (.int (a : Int)), .val (.int (b : Int)), .val (.int (pl : Int)), x6] =
    .ok .nx [x0, .val (.int (w : Int)), .val (.int (p : Int)), .val (.int (stp w p a (b / 2 ^ pl % 2) : Nat)), .val (.int (b : Int)), .val (.int (pl : Int)), .val (.int ((a / 2 ^ (w - 1) : Nat) : Int))] := by
  have hp16 : 2 ^ w ≤ 65536 := by
    have := Nat.pow_le_pow_right (show 0 < 2 by decide) hw
    omega
  have t1 := an1 (a / 2 ^ (w - 1))
  rw [Nat.mod_eq_of_lt (top_lt h.w0 ha)] at t1
  rw [← stp_int]
  unfold lsB
  refine (seq_nx (lb1 shrD andD _ _ _ _ (sh1 h.w0) t1 _ _ _ _ _)).trans ?_
  refine (seq_nx (lb2 shlD andD _ _ _ _ _ (sh2 (by omega)) (sh3 hw) (anw _ _) _ _ _ _ _)).trans ?_
  exact lb3 shrD andD (cmpD .NotEq) xorD _ _ _ _ _ _ _ _ _ (shp b pl) (an1 _) (ne5 _ _) (xr6 _ _) _ _
theorem places : seqM (tupM [(retM (.int 7)), (retM (.int 6)), (retM (.int 5)), (retM (.int 4)), (retM (.int 3)), (retM (.int 2)), (retM (.int 1)), (retM (.int 0))]) = fun ρ => .ok ([7, 6, 5, 4, 3, 2, 1, 0].map fun x : Nat => D.int (x : Nat)) ρ := by
  funext ρ
  rfl
theorem lsum_ok {row : List Nat} {w p : Nat} (h : Wp w p) (hw : w ≤ 16) : f_law_sum [tI row, .int (w : Int), .int (p : Int)] = .ok (.int (crc w p 0 (rb row) : Nat)) := by
  rw [e_law_sum]
  obtain ⟨_, y, hy⟩ := forG (v := 4) row (fun x => D.int (x : Nat)) (fun a b => crc w p a (bitsN b 8)) (s := forS (seqM (tupM [(retM (.int 7)), (retM (.int 6)), (retM (.int 5)), (retM (.int 4)), (retM (.int 3)), (retM (.int 2)), (retM (.int 1)), (retM (.int 0))])) (.nm 5) lsB)
    (fun a (y : Sl × Sl × Sl) => [.val (tI row), .val (.int (w : Int)), .val (.int (p : Int)), .val (.int (a : Nat)), y.1, y.2.1, y.2.2]) (fun a => a < 2 ^ w) 0 (Nat.two_pow_pos w) (.no, .no, .no) (fun a y b ha _ => by
      obtain ⟨q, z, hz⟩ := forG (v := 5) [7, 6, 5, 4, 3, 2, 1, 0] (fun x => D.int (x : Nat)) (fun a pl => stp w p a (b / 2 ^ pl % 2)) (s := lsB)
        (fun a (y : Sl × Sl) => [.val (tI row), .val (.int (w : Int)), .val (.int (p : Int)), .val (.int (a : Nat)), .val (.int (b : Nat)), y.1, y.2]) (fun a => a < 2 ^ w) a ha (y.2.1, y.2.2) (fun a y pl ha _ => ⟨stp_lt h _ _, (.val (.int (pl : Nat)), .val (.int ((a / 2 ^ (w - 1) : Nat) : Int))), lsB_ok h hw ha b pl _ _⟩)
      refine ⟨q, (.val (.int (b : Nat)), z.1, z.2), ?_⟩
      show (seqM (tupM _) _).bind _ = _
      rw [places]
      exact hz)
  have e : row.foldl (fun a b => crc w p a (bitsN b 8)) 0 = crc w p 0 (rb row) := by
    have : ∀ (row : List Nat) a, row.foldl (fun a b => crc w p a (bitsN b 8)) a = crc w p a (rb row) := by
      intro row
      induction row with
      | nil => intro a; rfl
      | cons b row ih =>
        intro a
        show row.foldl _ (crc w p a (bitsN b 8)) = crc w p a (bitsN b 8 ++ rb row)
        rw [ih, crc_app]
    exact this row 0
  rw [e] at hy
  refine run_of (ρ := [.val (tI row), .val (.int (w : Int)), .val (.int (p : Int)), .val (.int (crc w p 0 (rb row) : Nat)), y.1, y.2.1, y.2.2]) ?_
  refine (seq_nx (ρ' := [.val (tI row), .val (.int (w : Int)), .val (.int (p : Int)), .val (.int ((0 : Nat) : Int)), .no, .no, .no]) rfl).trans ?_
  refine (seq_nx (ρ' := [.val (tI row), .val (.int (w : Int)), .val (.int (p : Int)), .val (.int (crc w p 0 (rb row) : Nat)), y.1, y.2.1, y.2.2]) hy).trans ?_
  rfl
/-! ### joined sums -/
theorem jn1 (f : Fn) (a u : Int) (x1 x2 x3 : Sl) (h : f [.int a, .int 0, .int 16, .int 32773] = .ok (.int u)) : asgS 0 (callM f [.va 0, .ex (retM (.int 0)), .ex (retM (.int 16)), .ex (retM (.int 32773))]) true [.val (.int a), x1, x2, x3] = .ok .nx [.val (.int u), x1, x2, x3] := by
  simp only [x_seqS, x_nxS, x_bkS, x_ctS, x_retS, x_retNS, x_retV, x_ifS, x_asgS, x_slotOf, x_slotOf', x_opM, x_opI, x_ev0, x_ev1, x_ev2, x_sl1, x_sl2, x_retM, x_varM, x_f1, x_f2, x_boolM, x_truM, x_notM, x_andM, x_orM, x_iteM, x_tvM, x_lstM, x_tupM, x_forS, x_whileS, x_parS, x_par0, x_par1, x_appS, x_setS, x_callM, x_cmpEq, x_cmpNe, x_cmpLt, x_cmpLe, x_cmpGt, x_cmpGe, x_cmpIs, x_cmpIn, x_eqI, x_neI, x_ltI, x_leI, x_gtI, x_geI, x_isI, x_add, x_sub, x_mul, x_mod, x_div, x_xor, x_and, x_shr, x_neg, x_abs, x_int, x_isi, x_truB, x_mutI, x_mutB, x_mutL, x_mutT, x_indI, x_indB, x_len, x_lenT, x_lenS, x_andV, x_orV, R.bind_ok, R.bind_exc, R.bind_bad, List.getElem?_cons_zero, List.getElem?_cons_succ, List.set_cons_zero, List.set_cons_succ, Option.map_some, if_true, if_false, decide_eq_true_eq, Bool.not_eq_true, decide_true, decide_false, Bool.false_eq_true, Bool.not_true, Bool.not_false, and_true, true_and, and_false, false_and, List.map_cons, List.map_nil, List.replicate, List.cons_append, List.nil_append, List.length_cons, List.length_nil, List.append_nil, reduceCtorEq, Nat.reduceSub, Nat.reduceAdd, hasOwn, List.any_cons, List.any_nil, Bool.or_false, Bool.or_true, Bool.true_or, Bool.false_or, List.isEmpty_nil, ite_self, eq_self, h]
theorem jn2 (f g : D → D → Option D) (a s u : Int) (x2 x3 : Sl) (h : g (.int a) (.int s) = some (.int u)) : retS (opM (f2 g) [.va 0, .va 1]) true [.val (.int a), .val (.int s), x2, x3] = .ok (.ret (.int u)) [.val (.int a), .val (.int s), x2, x3] := by
  simp only [x_seqS, x_nxS, x_bkS, x_ctS, x_retS, x_retNS, x_retV, x_ifS, x_asgS, x_slotOf, x_slotOf', x_opM, x_opI, x_ev0, x_ev1, x_ev2, x_sl1, x_sl2, x_retM, x_varM, x_f1, x_f2, x_boolM, x_truM, x_notM, x_andM, x_orM, x_iteM, x_tvM, x_lstM, x_tupM, x_forS, x_whileS, x_parS, x_par0, x_par1, x_appS, x_setS, x_callM, x_cmpEq, x_cmpNe, x_cmpLt, x_cmpLe, x_cmpGt, x_cmpGe, x_cmpIs, x_cmpIn, x_eqI, x_neI, x_ltI, x_leI, x_gtI, x_geI, x_isI, x_add, x_sub, x_mul, x_mod, x_div, x_xor, x_and, x_shr, x_neg, x_abs, x_int, x_isi, x_truB, x_mutI, x_mutB, x_mutL, x_mutT, x_indI, x_indB, x_len, x_lenT, x_lenS, x_andV, x_orV, R.bind_ok, R.bind_exc, R.bind_bad, List.getElem?_cons_zero, List.getElem?_cons_succ, List.set_cons_zero, List.set_cons_succ, Option.map_some, if_true, if_false, decide_eq_true_eq, Bool.not_eq_true, decide_true, decide_false, Bool.false_eq_true, Bool.not_true, Bool.not_false, and_true, true_and, and_false, false_and, List.map_cons, List.map_nil, List.replicate, List.cons_append, List.nil_append, List.length_cons, List.length_nil, List.append_nil, reduceCtorEq, Nat.reduceSub, Nat.reduceAdd, hasOwn, List.any_cons, List.any_nil, Bool.or_false, Bool.or_true, Bool.true_or, Bool.false_or, List.isEmpty_nil, ite_self, eq_self, h]
theorem jn3 (n : Int) (x0 x1 x3 : Sl) (h : MulOk 8 n) : evO [.ex (opM (f2 mulD) [.ex (retM (.int 8)), .va 2])] [x0, x1, .val (.int n), x3] = .ok [.int (8 * n)] [x0, x1, .val (.int n), x3] := by
  simp only [x_seqS, x_nxS, x_bkS, x_ctS, x_retS, x_retNS, x_retV, x_ifS, x_asgS, x_slotOf, x_slotOf', x_opM, x_opI, x_ev0, x_ev1, x_ev2, x_sl1, x_sl2, x_retM, x_varM, x_f1, x_f2, x_boolM, x_truM, x_notM, x_andM, x_orM, x_iteM, x_tvM, x_lstM, x_tupM, x_forS, x_whileS, x_parS, x_par0, x_par1, x_appS, x_setS, x_callM, x_cmpEq, x_cmpNe, x_cmpLt, x_cmpLe, x_cmpGt, x_cmpGe, x_cmpIs, x_cmpIn, x_eqI, x_neI, x_ltI, x_leI, x_gtI, x_geI, x_isI, x_add, x_sub, x_mul, x_mod, x_div, x_xor, x_and, x_shr, x_neg, x_abs, x_int, x_isi, x_truB, x_mutI, x_mutB, x_mutL, x_mutT, x_indI, x_indB, x_len, x_lenT, x_lenS, x_andV, x_orV, R.bind_ok, R.bind_exc, R.bind_bad, List.getElem?_cons_zero, List.getElem?_cons_succ, List.set_cons_zero, List.set_cons_succ, Option.map_some, if_true, if_false, decide_eq_true_eq, Bool.not_eq_true, decide_true, decide_false, Bool.false_eq_true, Bool.not_true, Bool.not_false, and_true, true_and, and_false, false_and, List.map_cons, List.map_nil, List.replicate, List.cons_append, List.nil_append, List.length_cons, List.length_nil, List.append_nil, reduceCtorEq, Nat.reduceSub, Nat.reduceAdd, hasOwn, List.any_cons, List.any_nil, Bool.or_false, Bool.or_true, Bool.true_or, Bool.false_or, List.isEmpty_nil, ite_self, eq_self, h]
theorem joined_ok {f s n : Nat} (hf : f < 65536) (hn : n ≤ 1000) : f_joined_great_sum [.int (f : Int), .int (s : Int), .int (n : Int)] = .ok (.int ((crc 16 32773 f (zs (8 * n)) ^^^ s : Nat) : Int)) := by
  rw [e_joined_great_sum]
  obtain ⟨ρ', h1, y, h2⟩ := for_range (v := 3) (lo := 0) (c := 1) (n := 8 * n) (s := asgS 0 (callM f_stepped [.va 0, .ex (retM (.int 0)), .ex (retM (.int 16)), .ex (retM (.int 32773))]) true) (ρ := [.val (.int (f : Int)), .val (.int (s : Int)), .val (.int (n : Int)), .no])
    (fun i ρ => ∃ y, ρ = [.val (.int (crc 16 32773 f (zs i) : Nat)), .val (.int (s : Int)), .val (.int (n : Int)), y]) ⟨.no, rfl⟩ (by
      rintro i _ hi ⟨y, rfl⟩
      have e : crc 16 32773 f (zs (i + 1)) = stp 16 32773 (crc 16 32773 f (zs i)) 0 := by
        show crc 16 32773 f (List.replicate (i + 1) 0) = _
        rw [List.replicate_succ', crc_app]
        rfl
      refine ⟨_, .inl (jn1 f_stepped _ (crc 16 32773 f (zs (i + 1)) : Nat) _ _ _ ?_), _, rfl⟩
      rw [e]
      exact stepped_sem _ 0 16 32773 (by decide) (by decide) (crc_lt W16 _ _ hf))
  have hr : rng1 [.int (8 * (n : Int))] = some (rangeL 0 (8 * n) 1) := by
    have := rng_nat (n := 8 * n) (by omega)
    rw [show ((8 * n : Nat) : Int) = 8 * (n : Int) by omega] at this
    exact this
  refine run_of (ρ := [.val (.int (crc 16 32773 f (zs (8 * n)) : Nat)), .val (.int (s : Int)), .val (.int (n : Int)), y]) ?_
  refine (seq_nx ((forI (jn3 (n : Int) _ _ _ (mulOk_l (by decide))) hr).trans (h1.trans (congrArg (R.ok Fl.nx) h2)))).trans ?_
  exact jn2 xorD xorD _ _ _ _ _ (xr6 _ _)
end K02
namespace K02
open PySem PyProof.Rows L2 Dv
/-! ### sums as bytes -/
theorem sb_ok (f : Fn) (g1 g2 : D → D → Option D) (x : D) (c a b m : Int) (h : f [x] = .ok (.int c)) (h1 : g1 (.int c) (.int 8) = some (.int a)) (h2 : g2 (.int c) (.int m) = some (.int b)) :
    runB 2 (seqS (asgS 1 (callM f [.va 0]) true) (retS (tupM [(opM (f2 g1) [.va 1, .ex (retM (.int 8))]), (opM (f2 g2) [.va 1, .ex (retM (.int m))])]) false)) [x] = .ok (.tup [.int a, .int b]) := by
  refine run_of (ρ := [.val x, .val (.int c)]) ?_
  simp only [x_seqS, x_nxS, x_bkS, x_ctS, x_retS, x_retNS, x_retV, x_ifS, x_asgS, x_slotOf, x_slotOf', x_opM, x_opI, x_ev0, x_ev1, x_ev2, x_sl1, x_sl2, x_retM, x_varM, x_f1, x_f2, x_boolM, x_truM, x_notM, x_andM, x_orM, x_iteM, x_tvM, x_lstM, x_tupM, x_forS, x_whileS, x_parS, x_par0, x_par1, x_appS, x_setS, x_callM, x_cmpEq, x_cmpNe, x_cmpLt, x_cmpLe, x_cmpGt, x_cmpGe, x_cmpIs, x_cmpIn, x_eqI, x_neI, x_ltI, x_leI, x_gtI, x_geI, x_isI, x_add, x_sub, x_mul, x_mod, x_div, x_xor, x_and, x_shr, x_neg, x_abs, x_int, x_isi, x_truB, x_mutI, x_mutB, x_mutL, x_mutT, x_indI, x_indB, x_len, x_lenT, x_lenS, x_andV, x_orV, R.bind_ok, R.bind_exc, R.bind_bad, List.getElem?_cons_zero, List.getElem?_cons_succ, List.set_cons_zero, List.set_cons_succ, Option.map_some, if_true, if_false, decide_eq_true_eq, Bool.not_eq_true, decide_true, decide_false, Bool.false_eq_true, Bool.not_true, Bool.not_false, and_true, true_and, and_false, false_and, List.map_cons, List.map_nil, List.replicate, List.cons_append, List.nil_append, List.length_cons, List.length_nil, List.append_nil, reduceCtorEq, Nat.reduceSub, Nat.reduceAdd, hasOwn, List.any_cons, List.any_nil, Bool.or_false, Bool.or_true, Bool.true_or, Bool.false_or, List.isEmpty_nil, ite_self, eq_self, h, h1, h2]
theorem shr8 (c : Nat) : shrD (.int (c : Int)) (.int 8) = some (.int ((c / 256 : Nat) : Int)) := shp c 8
theorem and255 (c : Nat) : andD (.int (c : Int)) (.int 255) = some (.int ((c % 256 : Nat) : Int)) := anw c 8
theorem sum_bytes_ok {row : List Nat} (hl : row.length ≤ 1000) : f_sum_bytes [tI row] = .ok (.tup [.int ((crc 16 32773 0 (rb row) / 256 : Nat) : Int), .int ((crc 16 32773 0 (rb row) % 256 : Nat) : Int)]) := by
  rw [e_sum_bytes]
  exact sb_ok f_great_sum shrD modD _ _ _ _ 256 (great_ok hl) (shr8 _) (md4 _ 256 (by decide))
theorem sm_ok (f : Fn) (g1 g2 ad : D → D → Option D) (x z : D) (c a b : Int) (h : f [x, .int 16, .int 32773] = .ok (.int c)) (h1 : g1 (.int c) (.int 8) = some (.int a)) (h2 : g2 (.int c) (.int 255) = some (.int b)) (h3 : ad x (.tup [.int a, .int b]) = some z) (hm : isMut z = false) :
    runB 2 (seqS (asgS 1 (callM f [.va 0, .ex (retM (.int 16)), .ex (retM (.int 32773))]) true) (retS (opM (f2 ad) [.va 0, .ex (tupM [(opM (f2 g1) [.va 1, .ex (retM (.int 8))]), (opM (f2 g2) [.va 1, .ex (retM (.int 255))])])]) true)) [x] = .ok z := by
  refine run_of (ρ := [.val x, .val (.int c)]) ?_
  simp only [x_seqS, x_nxS, x_bkS, x_ctS, x_retS, x_retNS, x_retV, x_ifS, x_asgS, x_slotOf, x_slotOf', x_opM, x_opI, x_ev0, x_ev1, x_ev2, x_sl1, x_sl2, x_retM, x_varM, x_f1, x_f2, x_boolM, x_truM, x_notM, x_andM, x_orM, x_iteM, x_tvM, x_lstM, x_tupM, x_forS, x_whileS, x_parS, x_par0, x_par1, x_appS, x_setS, x_callM, x_cmpEq, x_cmpNe, x_cmpLt, x_cmpLe, x_cmpGt, x_cmpGe, x_cmpIs, x_cmpIn, x_eqI, x_neI, x_ltI, x_leI, x_gtI, x_geI, x_isI, x_add, x_sub, x_mul, x_mod, x_div, x_xor, x_and, x_shr, x_neg, x_abs, x_int, x_isi, x_truB, x_mutI, x_mutB, x_mutL, x_mutT, x_indI, x_indB, x_len, x_lenT, x_lenS, x_andV, x_orV, R.bind_ok, R.bind_exc, R.bind_bad, List.getElem?_cons_zero, List.getElem?_cons_succ, List.set_cons_zero, List.set_cons_succ, Option.map_some, if_true, if_false, decide_eq_true_eq, Bool.not_eq_true, decide_true, decide_false, Bool.false_eq_true, Bool.not_true, Bool.not_false, and_true, true_and, and_false, false_and, List.map_cons, List.map_nil, List.replicate, List.cons_append, List.nil_append, List.length_cons, List.length_nil, List.append_nil, reduceCtorEq, Nat.reduceSub, Nat.reduceAdd, hasOwn, List.any_cons, List.any_nil, Bool.or_false, Bool.or_true, Bool.true_or, Bool.false_or, List.isEmpty_nil, ite_self, eq_self, h, h1, h2, h3]
theorem add_tI {a b : List Nat} (h : a.length + b.length ≤ 16000000) : addD (tI a) (tI b) = some (tI (a ++ b)) := by
  show (if (a.map fun x => D.int (x : Nat)).length + (b.map fun x => D.int (x : Nat)).length ≤ sizeLine then some (D.tup ((a.map fun x => D.int (x : Nat)) ++ (b.map fun x => D.int (x : Nat)))) else none) = _
  rw [List.length_map, List.length_map, if_pos (by rw [sizeLine_eq]; omega)]
  show some (D.tup _) = some (D.tup ((a ++ b).map fun x => D.int (x : Nat)))
  rw [List.map_append]
theorem summed_ok {row : List Nat} (hl : row.length ≤ 1000) : f_law_summed [tI row] = .ok (tI (row ++ [crc 16 32773 0 (rb row) / 256, crc 16 32773 0 (rb row) % 256])) := by
  rw [e_law_summed]
  exact sm_ok f_law_sum shrD andD addD _ _ _ _ _ (lsum_ok W16 (by decide)) (shr8 _) (and255 _) (add_tI (a := row) (b := [_, _]) (by show _ + 2 ≤ _; omega)) rfl
theorem ret_of {m : M D} {fr : Bool} {ρ ρ' : En} {d : D} (h : m ρ = .ok d ρ') (hm : isMut d = false) : retS m fr ρ = .ok (.ret d) ρ' := by
  unfold retS
  rw [h, R.bind_ok, hm]
  exact if_neg (fun z => Bool.noConfusion z.2)
theorem all_two : f1 allD [.lst ([D.int 0, D.int 1].map fun _ => D.bl true)] = some (.bl true) := rfl
/-! ### is -/
theorem lis1 (i j : Int) : f_law_is_3 [.int i, .int j] = .ok (.bl (decide (i = j))) := by
  rw [e_law_is_3]
  exact is_int (g := f_law_is_2) (h := f_law_is_integer) (fun d => by rw [e_law_is_integer]; exact isint_ok d) i j
theorem lis_ok (i j : Int) : f_law_is [.int i, .int j] = .ok (.bl (decide (i = j))) := by
  rw [e_law_is]
  exact is_int (g := f_law_is_3) (h := f_law_is_integer) (fun d => by rw [e_law_is_integer]; exact isint_ok d) i j
theorem is_self (i : Int) : f_law_is [.int i, .int i] = .ok (.bl true) := by
  rw [lis_ok, decide_eq_true rfl]
theorem ip1 (g : Fn) (x y : D) (i a b : Int) (h1 : ixD x (.int i) = some (.int a)) (h2 : ixD y (.int i) = some (.int b)) (h3 : g [.int a, .int b] = .ok (.bl true)) : callM g [.ex (opM (f2 ixD) [.va 0, .va 2]), .ex (opM (f2 ixD) [.va 1, .va 2])] [.val x, .val y, .val (.int i)] = .ok (.bl true) [.val x, .val y, .val (.int i)] := by
  generalize ixD = f at h1 h2 ⊢
  simp only [x_seqS, x_nxS, x_bkS, x_ctS, x_retS, x_retNS, x_retV, x_ifS, x_asgS, x_slotOf, x_slotOf', x_opM, x_opI, x_ev0, x_ev1, x_ev2, x_sl1, x_sl2, x_retM, x_varM, x_f1, x_f2, x_boolM, x_truM, x_notM, x_andM, x_orM, x_iteM, x_tvM, x_lstM, x_tupM, x_forS, x_whileS, x_parS, x_par0, x_par1, x_appS, x_setS, x_callM, x_cmpEq, x_cmpNe, x_cmpLt, x_cmpLe, x_cmpGt, x_cmpGe, x_cmpIs, x_cmpIn, x_eqI, x_neI, x_ltI, x_leI, x_gtI, x_geI, x_isI, x_add, x_sub, x_mul, x_mod, x_div, x_xor, x_and, x_shr, x_neg, x_abs, x_int, x_isi, x_truB, x_mutI, x_mutB, x_mutL, x_mutT, x_indI, x_indB, x_len, x_lenT, x_lenS, x_andV, x_orV, R.bind_ok, R.bind_exc, R.bind_bad, List.getElem?_cons_zero, List.getElem?_cons_succ, List.set_cons_zero, List.set_cons_succ, Option.map_some, if_true, if_false, decide_eq_true_eq, Bool.not_eq_true, decide_true, decide_false, Bool.false_eq_true, Bool.not_true, Bool.not_false, and_true, true_and, and_false, false_and, List.map_cons, List.map_nil, List.replicate, List.cons_append, List.nil_append, List.length_cons, List.length_nil, List.append_nil, reduceCtorEq, Nat.reduceSub, Nat.reduceAdd, hasOwn, List.any_cons, List.any_nil, Bool.or_false, Bool.or_true, Bool.true_or, Bool.false_or, List.isEmpty_nil, ite_self, eq_self, h1, h2, h3]
theorem is_pair (a b : Int) : f_law_is [.tup [.int a, .int b], .tup [.int a, .int b]] = .ok (.bl true) := by
  rw [e_law_is]
  have g : ∀ i, f_law_is_3 [.int i, .int i] = .ok (.bl true) := fun i => by rw [lis1, decide_eq_true rfl]
  generalize f_law_is_3 = f at g ⊢
  have hc := compM_ok (v := 2) (mi := opI rng1 [.ex (opM (f1 lenD) [.va 1])]) (elt := callM f [.ex (opM (f2 ixD) [.va 0, .va 2]), .ex (opM (f2 ixD) [.va 1, .va 2])]) (ρ := [.val (.tup [.int a, .int b]), .val (.tup [.int a, .int b]), .no]) (ds := [.int 0, .int 1]) (fun _ => .bl true) (opI_ok (ds := [.int 2]) rfl (show rng1 [.int 2] = some [.int 0, .int 1] from rfl)) rfl (by simp) (by show 2 < 3; decide) (fun d hd => by
    rcases List.mem_cons.mp hd with rfl | hd
    · exact ip1 f _ _ 0 a a rfl rfl (g a)
    · rcases List.mem_cons.mp hd with rfl | hd
      · exact ip1 f _ _ 1 b b rfl rfl (g b)
      · cases hd)
  have h1 := opM_ok (f := f1 allD) (ev_one hc) all_two
  have h2 := ret_of (fr := true) h1 rfl
  have hn : isD (.tup [.int a, .int b]) .non = some (.bl false) := rfl
  have b1 : isiB "bool" (.tup [.int a, .int b]) = false := rfl
  have b2 : isiB "int" (.tup [.int a, .int b]) = false := rfl
  have b3 : isiB "str" (.tup [.int a, .int b]) = false := rfl
  have b4 : isiB "tuple" (.tup [.int a, .int b]) = true := rfl
  have hl : lenD (.tup [.int a, .int b]) = some (.int 2) := rfl
  refine run_of (ρ := [.val (.tup [.int a, .int b]), .val (.tup [.int a, .int b]), .no]) ?_
  generalize (D.tup [.int a, .int b]) = z at *
  refine (seq_nx (ρ' := [.val z, .val z, .no]) (by simp only [x_seqS, x_nxS, x_bkS, x_ctS, x_retS, x_retNS, x_retV, x_ifS, x_asgS, x_slotOf, x_slotOf', x_opM, x_opI, x_ev0, x_ev1, x_ev2, x_sl1, x_sl2, x_retM, x_varM, x_f1, x_f2, x_boolM, x_truM, x_notM, x_andM, x_orM, x_iteM, x_tvM, x_lstM, x_tupM, x_forS, x_whileS, x_parS, x_par0, x_par1, x_appS, x_setS, x_callM, x_cmpEq, x_cmpNe, x_cmpLt, x_cmpLe, x_cmpGt, x_cmpGe, x_cmpIs, x_cmpIn, x_eqI, x_neI, x_ltI, x_leI, x_gtI, x_geI, x_isI, x_add, x_sub, x_mul, x_mod, x_div, x_xor, x_and, x_shr, x_neg, x_abs, x_int, x_isi, x_truB, x_mutI, x_mutB, x_mutL, x_mutT, x_indI, x_indB, x_len, x_lenT, x_lenS, x_andV, x_orV, R.bind_ok, R.bind_exc, R.bind_bad, List.getElem?_cons_zero, List.getElem?_cons_succ, List.set_cons_zero, List.set_cons_succ, Option.map_some, if_true, if_false, decide_eq_true_eq, Bool.not_eq_true, decide_true, decide_false, Bool.false_eq_true, Bool.not_true, Bool.not_false, and_true, true_and, and_false, false_and, List.map_cons, List.map_nil, List.replicate, List.cons_append, List.nil_append, List.length_cons, List.length_nil, List.append_nil, reduceCtorEq, Nat.reduceSub, Nat.reduceAdd, hasOwn, List.any_cons, List.any_nil, Bool.or_false, Bool.or_true, Bool.true_or, Bool.false_or, List.isEmpty_nil, ite_self, eq_self, hn])).trans ?_
  refine (seq_nx (ρ' := [.val z, .val z, .no]) (by simp only [x_seqS, x_nxS, x_bkS, x_ctS, x_retS, x_retNS, x_retV, x_ifS, x_asgS, x_slotOf, x_slotOf', x_opM, x_opI, x_ev0, x_ev1, x_ev2, x_sl1, x_sl2, x_retM, x_varM, x_f1, x_f2, x_boolM, x_truM, x_notM, x_andM, x_orM, x_iteM, x_tvM, x_lstM, x_tupM, x_forS, x_whileS, x_parS, x_par0, x_par1, x_appS, x_setS, x_callM, x_cmpEq, x_cmpNe, x_cmpLt, x_cmpLe, x_cmpGt, x_cmpGe, x_cmpIs, x_cmpIn, x_eqI, x_neI, x_ltI, x_leI, x_gtI, x_geI, x_isI, x_add, x_sub, x_mul, x_mod, x_div, x_xor, x_and, x_shr, x_neg, x_abs, x_int, x_isi, x_truB, x_mutI, x_mutB, x_mutL, x_mutT, x_indI, x_indB, x_len, x_lenT, x_lenS, x_andV, x_orV, R.bind_ok, R.bind_exc, R.bind_bad, List.getElem?_cons_zero, List.getElem?_cons_succ, List.set_cons_zero, List.set_cons_succ, Option.map_some, if_true, if_false, decide_eq_true_eq, Bool.not_eq_true, decide_true, decide_false, Bool.false_eq_true, Bool.not_true, Bool.not_false, and_true, true_and, and_false, false_and, List.map_cons, List.map_nil, List.replicate, List.cons_append, List.nil_append, List.length_cons, List.length_nil, List.append_nil, reduceCtorEq, Nat.reduceSub, Nat.reduceAdd, hasOwn, List.any_cons, List.any_nil, Bool.or_false, Bool.or_true, Bool.true_or, Bool.false_or, List.isEmpty_nil, ite_self, eq_self, b1])).trans ?_
  refine (seq_nx (ρ' := [.val z, .val z, .no]) (by simp only [x_seqS, x_nxS, x_bkS, x_ctS, x_retS, x_retNS, x_retV, x_ifS, x_asgS, x_slotOf, x_slotOf', x_opM, x_opI, x_ev0, x_ev1, x_ev2, x_sl1, x_sl2, x_retM, x_varM, x_f1, x_f2, x_boolM, x_truM, x_notM, x_andM, x_orM, x_iteM, x_tvM, x_lstM, x_tupM, x_forS, x_whileS, x_parS, x_par0, x_par1, x_appS, x_setS, x_callM, x_cmpEq, x_cmpNe, x_cmpLt, x_cmpLe, x_cmpGt, x_cmpGe, x_cmpIs, x_cmpIn, x_eqI, x_neI, x_ltI, x_leI, x_gtI, x_geI, x_isI, x_add, x_sub, x_mul, x_mod, x_div, x_xor, x_and, x_shr, x_neg, x_abs, x_int, x_isi, x_truB, x_mutI, x_mutB, x_mutL, x_mutT, x_indI, x_indB, x_len, x_lenT, x_lenS, x_andV, x_orV, R.bind_ok, R.bind_exc, R.bind_bad, List.getElem?_cons_zero, List.getElem?_cons_succ, List.set_cons_zero, List.set_cons_succ, Option.map_some, if_true, if_false, decide_eq_true_eq, Bool.not_eq_true, decide_true, decide_false, Bool.false_eq_true, Bool.not_true, Bool.not_false, and_true, true_and, and_false, false_and, List.map_cons, List.map_nil, List.replicate, List.cons_append, List.nil_append, List.length_cons, List.length_nil, List.append_nil, reduceCtorEq, Nat.reduceSub, Nat.reduceAdd, hasOwn, List.any_cons, List.any_nil, Bool.or_false, Bool.or_true, Bool.true_or, Bool.false_or, List.isEmpty_nil, ite_self, eq_self, b2])).trans ?_
  refine (seq_nx (ρ' := [.val z, .val z, .no]) (by simp only [x_seqS, x_nxS, x_bkS, x_ctS, x_retS, x_retNS, x_retV, x_ifS, x_asgS, x_slotOf, x_slotOf', x_opM, x_opI, x_ev0, x_ev1, x_ev2, x_sl1, x_sl2, x_retM, x_varM, x_f1, x_f2, x_boolM, x_truM, x_notM, x_andM, x_orM, x_iteM, x_tvM, x_lstM, x_tupM, x_forS, x_whileS, x_parS, x_par0, x_par1, x_appS, x_setS, x_callM, x_cmpEq, x_cmpNe, x_cmpLt, x_cmpLe, x_cmpGt, x_cmpGe, x_cmpIs, x_cmpIn, x_eqI, x_neI, x_ltI, x_leI, x_gtI, x_geI, x_isI, x_add, x_sub, x_mul, x_mod, x_div, x_xor, x_and, x_shr, x_neg, x_abs, x_int, x_isi, x_truB, x_mutI, x_mutB, x_mutL, x_mutT, x_indI, x_indB, x_len, x_lenT, x_lenS, x_andV, x_orV, R.bind_ok, R.bind_exc, R.bind_bad, List.getElem?_cons_zero, List.getElem?_cons_succ, List.set_cons_zero, List.set_cons_succ, Option.map_some, if_true, if_false, decide_eq_true_eq, Bool.not_eq_true, decide_true, decide_false, Bool.false_eq_true, Bool.not_true, Bool.not_false, and_true, true_and, and_false, false_and, List.map_cons, List.map_nil, List.replicate, List.cons_append, List.nil_append, List.length_cons, List.length_nil, List.append_nil, reduceCtorEq, Nat.reduceSub, Nat.reduceAdd, hasOwn, List.any_cons, List.any_nil, Bool.or_false, Bool.or_true, Bool.true_or, Bool.false_or, List.isEmpty_nil, ite_self, eq_self, b3])).trans ?_
  refine (seq_nx (ρ' := [.val z, .val z, .no]) (by simp only [x_seqS, x_nxS, x_bkS, x_ctS, x_retS, x_retNS, x_retV, x_ifS, x_asgS, x_slotOf, x_slotOf', x_opM, x_opI, x_ev0, x_ev1, x_ev2, x_sl1, x_sl2, x_retM, x_varM, x_f1, x_f2, x_boolM, x_truM, x_notM, x_andM, x_orM, x_iteM, x_tvM, x_lstM, x_tupM, x_forS, x_whileS, x_parS, x_par0, x_par1, x_appS, x_setS, x_callM, x_cmpEq, x_cmpNe, x_cmpLt, x_cmpLe, x_cmpGt, x_cmpGe, x_cmpIs, x_cmpIn, x_eqI, x_neI, x_ltI, x_leI, x_gtI, x_geI, x_isI, x_add, x_sub, x_mul, x_mod, x_div, x_xor, x_and, x_shr, x_neg, x_abs, x_int, x_isi, x_truB, x_mutI, x_mutB, x_mutL, x_mutT, x_indI, x_indB, x_len, x_lenT, x_lenS, x_andV, x_orV, R.bind_ok, R.bind_exc, R.bind_bad, List.getElem?_cons_zero, List.getElem?_cons_succ, List.set_cons_zero, List.set_cons_succ, Option.map_some, if_true, if_false, decide_eq_true_eq, Bool.not_eq_true, decide_true, decide_false, Bool.false_eq_true, Bool.not_true, Bool.not_false, and_true, true_and, and_false, false_and, List.map_cons, List.map_nil, List.replicate, List.cons_append, List.nil_append, List.length_cons, List.length_nil, List.append_nil, reduceCtorEq, Nat.reduceSub, Nat.reduceAdd, hasOwn, List.any_cons, List.any_nil, Bool.or_false, Bool.or_true, Bool.true_or, Bool.false_or, List.isEmpty_nil, ite_self, eq_self, b4, hl])).trans ?_
  exact h2
/-! ### bytes of bits -/
def vl (l : List Nat) : Nat := l.foldl (fun a b => 2 * a + b) 0
theorem vl_acc : ∀ (l : List Nat) (a : Nat), l.foldl (fun a b => 2 * a + b) a = a * 2 ^ l.length + vl l
  | [], a => by show a = a * 1 + 0; omega
  | b :: l, a => by
    show l.foldl (fun a b => 2 * a + b) (2 * a + b) = a * 2 ^ (l.length + 1) + l.foldl (fun a b => 2 * a + b) (2 * 0 + b)
    rw [vl_acc l, vl_acc l, Nat.pow_succ]
    have : (2 * a + b) * 2 ^ l.length = a * (2 ^ l.length * 2) + b * 2 ^ l.length := by
      rw [Nat.add_mul, Nat.mul_comm 2 a, Nat.mul_assoc, Nat.mul_comm 2]
    rw [this, Nat.mul_zero, Nat.zero_add]
    omega
theorem vl_cons (b : Nat) (l : List Nat) : vl (b :: l) = b * 2 ^ l.length + vl l := by
  show l.foldl _ (2 * 0 + b) = _
  rw [vl_acc, Nat.mul_zero, Nat.zero_add]
theorem vl_lt : ∀ l : List Nat, (∀ b ∈ l, b < 2) → vl l < 2 ^ l.length
  | [], _ => by show 0 < 1; decide
  | b :: l, h => by
    have h1 := vl_lt l fun x hx => h x (List.mem_cons_of_mem _ hx)
    have h2 := h b List.mem_cons_self
    rw [vl_cons, List.length_cons, Nat.pow_succ]
    have : b * 2 ^ l.length ≤ 1 * 2 ^ l.length := Nat.mul_le_mul_right _ (by omega)
    omega
theorem bitsN_mul (x y : Nat) : ∀ n m, m ≤ n → bitsN (x * 2 ^ n + y) m = bitsN y m
  | n, 0, _ => rfl
  | n, m + 1, h => by
    show (x * 2 ^ n + y) / 2 ^ m % 2 :: bitsN (x * 2 ^ n + y) m = y / 2 ^ m % 2 :: bitsN y m
    rw [bitsN_mul x y n m (by omega)]
    congr 1
    have e : x * 2 ^ n = 2 ^ m * (2 * (x * 2 ^ (n - (m + 1)))) := by
      rw [show n = m + 1 + (n - (m + 1)) by omega, Nat.pow_add, Nat.pow_succ, show m + 1 + (n - (m + 1)) - (m + 1) = n - (m + 1) by omega]
      ac_rfl
    rw [e, Nat.mul_add_div (Nat.two_pow_pos m)]
    omega
theorem bitsN_vl : ∀ l : List Nat, (∀ b ∈ l, b < 2) → bitsN (vl l) l.length = l
  | [], _ => rfl
  | b :: l, h => by
    have h1 := vl_lt l fun x hx => h x (List.mem_cons_of_mem _ hx)
    have h2 := h b List.mem_cons_self
    show vl (b :: l) / 2 ^ l.length % 2 :: bitsN (vl (b :: l)) l.length = b :: l
    rw [vl_cons, bitsN_mul b (vl l) _ _ (Nat.le_refl _), bitsN_vl l fun x hx => h x (List.mem_cons_of_mem _ hx)]
    congr 1
    rw [Nat.mul_comm, Nat.mul_add_div (Nat.two_pow_pos _), Nat.div_eq_of_lt h1]
    omega
def byAt (bs : List Nat) (i : Nat) : Nat := vl ((bs.drop (8 * i)).take 8)
theorem rb_byAt : ∀ (m : Nat) (bs : List Nat), bs.length = 8 * m → (∀ b ∈ bs, b < 2) → rb ((List.range m).map (byAt bs)) = bs
  | 0, bs, h, _ => by
    have : bs = [] := List.eq_nil_of_length_eq_zero (by omega)
    subst this
    rfl
  | m + 1, bs, h, hb => by
    have e : (List.range (m + 1)).map (byAt bs) = vl (bs.take 8) :: (List.range m).map (byAt (bs.drop 8)) := by
      rw [List.range_succ_eq_map, List.map_cons, List.map_map]
      congr 1
      apply List.map_congr_left
      intro i _
      show vl ((bs.drop (8 * (i + 1))).take 8) = vl (((bs.drop 8).drop (8 * i)).take 8)
      rw [List.drop_drop, show 8 + 8 * i = 8 * (i + 1) by omega]
    rw [e]
    show bitsN (vl (bs.take 8)) 8 ++ rb _ = bs
    have l8 : (bs.take 8).length = 8 := by rw [List.length_take]; omega
    have h1 := bitsN_vl (bs.take 8) fun b hx => hb b (List.mem_of_mem_take hx)
    rw [l8] at h1
    rw [h1, rb_byAt m (bs.drop 8) (by rw [List.length_drop]; omega) fun b hx => hb b (List.mem_of_mem_drop hx), List.take_append_drop]
end K02
namespace K02
open PySem PyProof.Rows L2 Dv
/-! ### whole bytes -/
theorem wb1 (f : D → D → Option D) (g : D → D → Option D) (d z r : D) (l : Int) (hl : lenD d = some (.int l)) (h1 : g (.str "0") (.int ((0 - l) % 8)) = some z) (h2 : f d z = some r) (hm : isMut r = false) (x1 x2 x3 x4 : Sl) :
    asgS 0 (opM (f2 f) [.va 0, .ex (opM (f2 g) [.ex (retM (.str "0")), .ex (opM (f2 modD) [.ex (opM (f2 subD) [.ex (retM (.int 0)), .ex (opM (f1 lenD) [.va 0])]), .ex (retM (.int 8))])])]) true [.val d, x1, x2, x3, x4] = .ok .nx [.val r, x1, x2, x3, x4] := by
  have p8 : (0 : Int) < 8 := by decide
  simp only [x_seqS, x_nxS, x_bkS, x_ctS, x_retS, x_retNS, x_retV, x_ifS, x_asgS, x_slotOf, x_slotOf', x_opM, x_opI, x_ev0, x_ev1, x_ev2, x_sl1, x_sl2, x_retM, x_varM, x_f1, x_f2, x_boolM, x_truM, x_notM, x_andM, x_orM, x_iteM, x_tvM, x_lstM, x_tupM, x_forS, x_whileS, x_parS, x_par0, x_par1, x_appS, x_setS, x_callM, x_cmpEq, x_cmpNe, x_cmpLt, x_cmpLe, x_cmpGt, x_cmpGe, x_cmpIs, x_cmpIn, x_eqI, x_neI, x_ltI, x_leI, x_gtI, x_geI, x_isI, x_add, x_sub, x_mul, x_mod, x_div, x_xor, x_and, x_shr, x_neg, x_abs, x_int, x_isi, x_truB, x_mutI, x_mutB, x_mutL, x_mutT, x_indI, x_indB, x_len, x_lenT, x_lenS, x_andV, x_orV, R.bind_ok, R.bind_exc, R.bind_bad, List.getElem?_cons_zero, List.getElem?_cons_succ, List.set_cons_zero, List.set_cons_succ, Option.map_some, if_true, if_false, decide_eq_true_eq, Bool.not_eq_true, decide_true, decide_false, Bool.false_eq_true, Bool.not_true, Bool.not_false, and_true, true_and, and_false, false_and, List.map_cons, List.map_nil, List.replicate, List.cons_append, List.nil_append, List.length_cons, List.length_nil, List.append_nil, reduceCtorEq, Nat.reduceSub, Nat.reduceAdd, hasOwn, List.any_cons, List.any_nil, Bool.or_false, Bool.or_true, Bool.true_or, Bool.false_or, List.isEmpty_nil, ite_self, eq_self, hl, h1, h2, hm, p8]
theorem wb2 (d r : D) (i : Int) (h : slD3 d (some i) (some (i + 8)) = some r) (x1 x3 x4 : Sl) : slB (.va 0) (.va 2) (.ex (opM (f2 addD) [.va 2, .ex (retM (.int 8))])) [.val d, x1, .val (.int i), x3, x4] = .ok r [.val d, x1, .val (.int i), x3, x4] := by
  unfold slB
  simp only [x_seqS, x_nxS, x_bkS, x_ctS, x_retS, x_retNS, x_retV, x_ifS, x_asgS, x_slotOf, x_slotOf', x_opM, x_opI, x_ev0, x_ev1, x_ev2, x_sl1, x_sl2, x_retM, x_varM, x_f1, x_f2, x_boolM, x_truM, x_notM, x_andM, x_orM, x_iteM, x_tvM, x_lstM, x_tupM, x_forS, x_whileS, x_parS, x_par0, x_par1, x_appS, x_setS, x_callM, x_cmpEq, x_cmpNe, x_cmpLt, x_cmpLe, x_cmpGt, x_cmpGe, x_cmpIs, x_cmpIn, x_eqI, x_neI, x_ltI, x_leI, x_gtI, x_geI, x_isI, x_add, x_sub, x_mul, x_mod, x_div, x_xor, x_and, x_shr, x_neg, x_abs, x_int, x_isi, x_truB, x_mutI, x_mutB, x_mutL, x_mutT, x_indI, x_indB, x_len, x_lenT, x_lenS, x_andV, x_orV, R.bind_ok, R.bind_exc, R.bind_bad, List.getElem?_cons_zero, List.getElem?_cons_succ, List.set_cons_zero, List.set_cons_succ, Option.map_some, if_true, if_false, decide_eq_true_eq, Bool.not_eq_true, decide_true, decide_false, Bool.false_eq_true, Bool.not_true, Bool.not_false, and_true, true_and, and_false, false_and, List.map_cons, List.map_nil, List.replicate, List.cons_append, List.nil_append, List.length_cons, List.length_nil, List.append_nil, reduceCtorEq, Nat.reduceSub, Nat.reduceAdd, hasOwn, List.any_cons, List.any_nil, Bool.or_false, Bool.or_true, Bool.true_or, Bool.false_or, List.isEmpty_nil, ite_self, eq_self, Dv.again, h]
theorem wb3 (c : D → D → Option D) (a : Int) (d : D) (k : Bool) (h : c d (.str "1") = some (.bl k)) (x0 x1 x2 : Sl) :
    asgS 3 (opM (f2 addD) [.ex (opM (f2 mulD) [.ex (retM (.int 2)), .va 3]), .ex (iteM (boolM (opM (f2 c) [.va 4, .ex (retM (.str "1"))])) (retM (.int 1)) (retM (.int 0)))]) true [x0, x1, x2, .val (.int a), .val d] = .ok .nx [x0, x1, x2, .val (.int (2 * a + if k = true then 1 else 0)), .val d] := by
  have m2 : ∀ x : Int, MulOk 2 x := fun x => mulOk_l (by decide)
  cases k <;> simp only [x_seqS, x_nxS, x_bkS, x_ctS, x_retS, x_retNS, x_retV, x_ifS, x_asgS, x_slotOf, x_slotOf', x_opM, x_opI, x_ev0, x_ev1, x_ev2, x_sl1, x_sl2, x_retM, x_varM, x_f1, x_f2, x_boolM, x_truM, x_notM, x_andM, x_orM, x_iteM, x_tvM, x_lstM, x_tupM, x_forS, x_whileS, x_parS, x_par0, x_par1, x_appS, x_setS, x_callM, x_cmpEq, x_cmpNe, x_cmpLt, x_cmpLe, x_cmpGt, x_cmpGe, x_cmpIs, x_cmpIn, x_eqI, x_neI, x_ltI, x_leI, x_gtI, x_geI, x_isI, x_add, x_sub, x_mul, x_mod, x_div, x_xor, x_and, x_shr, x_neg, x_abs, x_int, x_isi, x_truB, x_mutI, x_mutB, x_mutL, x_mutT, x_indI, x_indB, x_len, x_lenT, x_lenS, x_andV, x_orV, R.bind_ok, R.bind_exc, R.bind_bad, List.getElem?_cons_zero, List.getElem?_cons_succ, List.set_cons_zero, List.set_cons_succ, Option.map_some, if_true, if_false, decide_eq_true_eq, Bool.not_eq_true, decide_true, decide_false, Bool.false_eq_true, Bool.not_true, Bool.not_false, and_true, true_and, and_false, false_and, List.map_cons, List.map_nil, List.replicate, List.cons_append, List.nil_append, List.length_cons, List.length_nil, List.append_nil, reduceCtorEq, Nat.reduceSub, Nat.reduceAdd, hasOwn, List.any_cons, List.any_nil, Bool.or_false, Bool.or_true, Bool.true_or, Bool.false_or, List.isEmpty_nil, ite_self, eq_self, h, m2]
theorem wb4 (x0 x2 x4 : Sl) (l : List D) (a : Int) (hl : l.length ≤ 16000000) : appS 1 (varM 3) [x0, .own (.lst l), x2, .val (.int a), x4] = .ok .nx [x0, .own (.lst (l ++ [.int a])), x2, .val (.int a), x4] := by
  simp only [x_seqS, x_nxS, x_bkS, x_ctS, x_retS, x_retNS, x_retV, x_ifS, x_asgS, x_slotOf, x_slotOf', x_opM, x_opI, x_ev0, x_ev1, x_ev2, x_sl1, x_sl2, x_retM, x_varM, x_f1, x_f2, x_boolM, x_truM, x_notM, x_andM, x_orM, x_iteM, x_tvM, x_lstM, x_tupM, x_forS, x_whileS, x_parS, x_par0, x_par1, x_appS, x_setS, x_callM, x_cmpEq, x_cmpNe, x_cmpLt, x_cmpLe, x_cmpGt, x_cmpGe, x_cmpIs, x_cmpIn, x_eqI, x_neI, x_ltI, x_leI, x_gtI, x_geI, x_isI, x_add, x_sub, x_mul, x_mod, x_div, x_xor, x_and, x_shr, x_neg, x_abs, x_int, x_isi, x_truB, x_mutI, x_mutB, x_mutL, x_mutT, x_indI, x_indB, x_len, x_lenT, x_lenS, x_andV, x_orV, R.bind_ok, R.bind_exc, R.bind_bad, List.getElem?_cons_zero, List.getElem?_cons_succ, List.set_cons_zero, List.set_cons_succ, Option.map_some, if_true, if_false, decide_eq_true_eq, Bool.not_eq_true, decide_true, decide_false, Bool.false_eq_true, Bool.not_true, Bool.not_false, and_true, true_and, and_false, false_and, List.map_cons, List.map_nil, List.replicate, List.cons_append, List.nil_append, List.length_cons, List.length_nil, List.append_nil, reduceCtorEq, Nat.reduceSub, Nat.reduceAdd, hasOwn, List.any_cons, List.any_nil, Bool.or_false, Bool.or_true, Bool.true_or, Bool.false_or, List.isEmpty_nil, ite_self, eq_self, hl]
theorem wb5 (x0 x2 x3 x4 : Sl) (l : List D) : retS (opM (f1 tupleD) [.va 1]) true [x0, .own (.lst l), x2, x3, x4] = .ok (.ret (.tup l)) [x0, .own (.lst l), x2, x3, x4] := by
  have h : tupleD (.lst l) = some (.tup l) := rfl
  simp only [x_seqS, x_nxS, x_bkS, x_ctS, x_retS, x_retNS, x_retV, x_ifS, x_asgS, x_slotOf, x_slotOf', x_opM, x_opI, x_ev0, x_ev1, x_ev2, x_sl1, x_sl2, x_retM, x_varM, x_f1, x_f2, x_boolM, x_truM, x_notM, x_andM, x_orM, x_iteM, x_tvM, x_lstM, x_tupM, x_forS, x_whileS, x_parS, x_par0, x_par1, x_appS, x_setS, x_callM, x_cmpEq, x_cmpNe, x_cmpLt, x_cmpLe, x_cmpGt, x_cmpGe, x_cmpIs, x_cmpIn, x_eqI, x_neI, x_ltI, x_leI, x_gtI, x_geI, x_isI, x_add, x_sub, x_mul, x_mod, x_div, x_xor, x_and, x_shr, x_neg, x_abs, x_int, x_isi, x_truB, x_mutI, x_mutB, x_mutL, x_mutT, x_indI, x_indB, x_len, x_lenT, x_lenS, x_andV, x_orV, R.bind_ok, R.bind_exc, R.bind_bad, List.getElem?_cons_zero, List.getElem?_cons_succ, List.set_cons_zero, List.set_cons_succ, Option.map_some, if_true, if_false, decide_eq_true_eq, Bool.not_eq_true, decide_true, decide_false, Bool.false_eq_true, Bool.not_true, Bool.not_false, and_true, true_and, and_false, false_and, List.map_cons, List.map_nil, List.replicate, List.cons_append, List.nil_append, List.length_cons, List.length_nil, List.append_nil, reduceCtorEq, Nat.reduceSub, Nat.reduceAdd, hasOwn, List.any_cons, List.any_nil, Bool.or_false, Bool.or_true, Bool.true_or, Bool.false_or, List.isEmpty_nil, ite_self, eq_self, h]
theorem wb6 (x1 x2 x3 x4 : Sl) (d : D) (l : Int) (hl : lenD d = some (.int l)) : evO [.ex (retM (.int 0)), .ex (opM (f1 lenD) [.va 0]), .ex (retM (.int 8))] [.val d, x1, x2, x3, x4] = .ok [.int 0, .int l, .int 8] [.val d, x1, x2, x3, x4] := by
  simp only [x_seqS, x_nxS, x_bkS, x_ctS, x_retS, x_retNS, x_retV, x_ifS, x_asgS, x_slotOf, x_slotOf', x_opM, x_opI, x_ev0, x_ev1, x_ev2, x_sl1, x_sl2, x_retM, x_varM, x_f1, x_f2, x_boolM, x_truM, x_notM, x_andM, x_orM, x_iteM, x_tvM, x_lstM, x_tupM, x_forS, x_whileS, x_parS, x_par0, x_par1, x_appS, x_setS, x_callM, x_cmpEq, x_cmpNe, x_cmpLt, x_cmpLe, x_cmpGt, x_cmpGe, x_cmpIs, x_cmpIn, x_eqI, x_neI, x_ltI, x_leI, x_gtI, x_geI, x_isI, x_add, x_sub, x_mul, x_mod, x_div, x_xor, x_and, x_shr, x_neg, x_abs, x_int, x_isi, x_truB, x_mutI, x_mutB, x_mutL, x_mutT, x_indI, x_indB, x_len, x_lenT, x_lenS, x_andV, x_orV, R.bind_ok, R.bind_exc, R.bind_bad, List.getElem?_cons_zero, List.getElem?_cons_succ, List.set_cons_zero, List.set_cons_succ, Option.map_some, if_true, if_false, decide_eq_true_eq, Bool.not_eq_true, decide_true, decide_false, Bool.false_eq_true, Bool.not_true, Bool.not_false, and_true, true_and, and_false, false_and, List.map_cons, List.map_nil, List.replicate, List.cons_append, List.nil_append, List.length_cons, List.length_nil, List.append_nil, reduceCtorEq, Nat.reduceSub, Nat.reduceAdd, hasOwn, List.any_cons, List.any_nil, Bool.or_false, Bool.or_true, Bool.true_or, Bool.false_or, List.isEmpty_nil, ite_self, eq_self, hl]
theorem rng8 {m : Nat} (h : m < 64) : rng3 [.int 0, .int ((8 * m : Nat) : Int), .int 8] = some (rangeL 0 m 8) := by
  have : ∀ m : Nat, m < 64 → RgC 0 ((8 * m : Nat) : Int) 8 (Builtin.Range.rangeSize 0 ((8 * m : Nat) : Int) 8).toNat ∧ (Builtin.Range.rangeSize 0 ((8 * m : Nat) : Int) 8).toNat = m := by decide +kernel
  obtain ⟨h1, h2⟩ := this m h
  show (if RgC 0 ((8 * m : Nat) : Int) 8 (Builtin.Range.rangeSize 0 ((8 * m : Nat) : Int) 8).toNat then some (rangeL 0 (Builtin.Range.rangeSize 0 ((8 * m : Nat) : Int) 8).toNat 8) else none) = _
  rw [if_pos h1, h2]
theorem eq_one {b : Nat} : cmpD .Eq (.str (ofC [b + 48])) (.str "1") = some (.bl (decide (b = 1))) := by
  rw [one_C]
  show eqD _ _ = _
  rw [ofC_eq]
  congr 2
  by_cases h : b = 1
  · subst h; rfl
  · rw [decide_eq_false h, decide_eq_false (by omega)]
theorem zero_pad : mulD (.str "0") (.int 0) = some (.str (ofC [])) := by
  rfl
def wbB : S := seqS (asgS 3 (retM (.int 0)) false)
      (seqS (forS (seqM (slB (.va 0) (.va 2) (.ex (opM (f2 addD) [.va 2, .ex (retM (.int 8))])))) (.nm 4)
        (asgS 3 (opM (f2 addD) [.ex (opM (f2 mulD) [.ex (retM (.int 2)), .va 3]), .ex (iteM (boolM (opM (f2 (cmpD .Eq)) [.va 4, .ex (retM (.str "1"))])) (retM (.int 1)) (retM (.int 0)))]) true))
      (appS 1 (varM 3)))
theorem wbB_ok {bs : List Nat} {m i : Nat} (hl : bs.length = 8 * m) (hm : m < 64) (hi : i < m) (hb : ∀ b ∈ bs, b < 2) (l : List D) (h16 : l.length ≤ 16000000) (x3 x4 : Sl) :
    ∃ y3 y4, wbB [.val (bC bs), .own (.lst l), .val (.int ((8 * i : Nat) : Int)), x3, x4] = .ok .nx [.val (bC bs), .own (.lst (l ++ [.int (byAt bs i : Nat)])), .val (.int ((8 * i : Nat) : Int)), y3, y4] := by
  have hs : slD3 (bC bs) (some ((8 * i : Nat) : Int)) (some (((8 * i : Nat) : Int) + 8)) = some (bC ((bs.drop (8 * i)).take 8)) := by
    rw [show ((8 * i : Nat) : Int) + 8 = ((8 * i + 8 : Nat) : Int) by omega, sliceC (by rw [List.length_map]; omega), cut_mid _ (by omega) (by rw [List.length_map]; omega), show 8 * i + 8 - 8 * i = 8 by omega, ← List.map_drop, ← List.map_take]
  obtain ⟨_, y, hy⟩ := forG (v := 4) ((bs.drop (8 * i)).take 8) (fun b => D.str (ofC [b + 48])) (fun a b => 2 * a + b) (s := asgS 3 (opM (f2 addD) [.ex (opM (f2 mulD) [.ex (retM (.int 2)), .va 3]), .ex (iteM (boolM (opM (f2 (cmpD .Eq)) [.va 4, .ex (retM (.str "1"))])) (retM (.int 1)) (retM (.int 0)))]) true)
    (fun a (y : Sl) => [.val (bC bs), .own (.lst l), .val (.int ((8 * i : Nat) : Int)), .val (.int (a : Nat)), y]) (fun _ => True) 0 trivial x4 (fun a y b _ hx => by
      refine ⟨trivial, .val (.str (ofC [b + 48])), ?_⟩
      have hb2 := hb b (List.mem_of_mem_drop (List.mem_of_mem_take hx))
      have h := wb3 (cmpD .Eq) (a : Int) (.str (ofC [b + 48])) _ eq_one (.val (bC bs)) (.own (.lst l)) (.val (.int ((8 * i : Nat) : Int)))
      have e : (2 * (a : Int) + if decide (b = 1) = true then 1 else 0) = ((2 * a + b : Nat) : Int) := by
        have : b = 0 ∨ b = 1 := by omega
        rcases this with rfl | rfl
        · show 2 * (a : Int) + 0 = _
          omega
        · show 2 * (a : Int) + 1 = _
          omega
      rw [e] at h
      exact h)
  have hv : ((bs.drop (8 * i)).take 8).foldl (fun a b => 2 * a + b) 0 = byAt bs i := rfl
  rw [hv] at hy
  refine ⟨.val (.int (byAt bs i : Nat)), y, ?_⟩
  unfold wbB
  refine (seq_nx (ρ' := [.val (bC bs), .own (.lst l), .val (.int ((8 * i : Nat) : Int)), .val (.int ((0 : Nat) : Int)), x4]) rfl).trans ?_
  have hm : seqM (slB (.va 0) (.va 2) (.ex (opM (f2 addD) [.va 2, .ex (retM (.int 8))]))) [.val (bC bs), .own (.lst l), .val (.int ((8 * i : Nat) : Int)), .val (.int ((0 : Nat) : Int)), x4] = .ok (((bs.drop (8 * i)).take 8).map fun b => D.str (ofC [b + 48])) [.val (bC bs), .own (.lst l), .val (.int ((8 * i : Nat) : Int)), .val (.int ((0 : Nat) : Int)), x4] := by
    unfold seqM
    rw [wb2 _ _ _ hs, R.bind_ok, seqC, List.map_map]
    rfl
  refine (seq_nx (ρ' := [.val (bC bs), .own (.lst l), .val (.int ((8 * i : Nat) : Int)), .val (.int (byAt bs i : Nat)), y]) ?_).trans ?_
  · rw [x_forS, hm, R.bind_ok]
    exact hy
  · exact wb4 _ _ _ _ _ h16
theorem whole_ok {bs : List Nat} {m : Nat} (hl : bs.length = 8 * m) (hm : m < 64) (hb : ∀ b ∈ bs, b < 2) : f_law_whole_bytes [bC bs] = .ok (tI ((List.range m).map (byAt bs))) := by
  rw [e_law_whole_bytes]
  have hlen : lenD (bC bs) = some (.int ((8 * m : Nat) : Int)) := by
    rw [lenC (by rw [List.length_map]; omega), List.length_map, hl]
  obtain ⟨ρ', h1, x2, x3, x4, h2⟩ := for_range (v := 2) (lo := 0) (c := 8) (n := m) (s := wbB) (ρ := [.val (bC bs), .own (.lst []), .no, .no, .no])
    (fun i ρ => ∃ x2 x3 x4, ρ = [.val (bC bs), .own (.lst (((List.range i).map (byAt bs)).map fun x => D.int (x : Nat))), x2, x3, x4]) ⟨_, _, _, rfl⟩ (by
      rintro i _ hi ⟨x2, x3, x4, rfl⟩
      rw [show (0 : Int) + (i : Int) * 8 = ((8 * i : Nat) : Int) by omega]
      obtain ⟨y3, y4, h⟩ := wbB_ok hl hm hi hb (((List.range i).map (byAt bs)).map fun x => D.int (x : Nat)) (by rw [List.length_map, List.length_map, List.length_range]; omega) x3 x4
      refine ⟨_, .inl h, .val (.int ((8 * i : Nat) : Int)), y3, y4, ?_⟩
      rw [List.range_succ, List.map_append, List.map_append]
      rfl)
  refine run_of (ρ := [.val (bC bs), .own (.lst (((List.range m).map (byAt bs)).map fun x => D.int (x : Nat))), x2, x3, x4]) ?_
  have hz : mulD (.str "0") (.int ((0 - ((8 * m : Nat) : Int)) % 8)) = some (.str (ofC [])) := by
    rw [show (0 - ((8 * m : Nat) : Int)) % 8 = 0 by omega]
    exact zero_pad
  have ha : addD (bC bs) (.str (ofC [])) = some (bC bs) := by
    have := addC (a := cs bs) (b := []) (by rw [List.length_map]; show _ + 0 ≤ _; omega)
    rw [List.append_nil] at this
    exact this
  refine (seq_nx (wb1 addD mulD _ _ _ _ hlen hz ha rfl _ _ _ _)).trans ?_
  refine (seq_nx (ρ' := [.val (bC bs), .own (.lst []), .no, .no, .no]) rfl).trans ?_
  refine (seq_nx ((forI (wb6 _ _ _ _ _ _ hlen) (rng8 hm)).trans (h1.trans (congrArg (R.ok Fl.nx) h2)))).trans ?_
  exact wb5 _ _ _ _ _
end K02
namespace K02
open PySem PyProof.Rows L2 Dv
/-! ### the law's statements, over any meanings of what they call -/
abbrev E17 := Sl
def h1S (fd fc : Fn) : S := asgS 2 (callM fd [.ex (callM fc [.va 0, .va 1]), .ex (retM (.int 70))]) true
theorem h1S_ok (fd fc : Fn) (s k : D) (c : Int) (l : List D) (h1 : fc [s, k] = .ok (.int c)) (h2 : fd [.int c, .int 70] = .ok (.lst l)) (s2 s3 s4 s5 s6 s7 s8 s9 s10 s11 s12 s13 s14 s15 s16 : Sl) :
    h1S fd fc [.val s, .val k, s2, s3, s4, s5, s6, s7, s8, s9, s10, s11, s12, s13, s14, s15, s16] = .ok .nx [.val s, .val k, .own (.lst l), s3, s4, s5, s6, s7, s8, s9, s10, s11, s12, s13, s14, s15, s16] := by
  unfold h1S
  simp only [x_seqS, x_nxS, x_bkS, x_ctS, x_retS, x_retNS, x_retV, x_ifS, x_asgS, x_slotOf, x_slotOf', x_opM, x_opI, x_ev0, x_ev1, x_ev2, x_sl1, x_sl2, x_retM, x_varM, x_f1, x_f2, x_boolM, x_truM, x_notM, x_andM, x_orM, x_iteM, x_tvM, x_lstM, x_tupM, x_forS, x_whileS, x_parS, x_par0, x_par1, x_appS, x_setS, x_callM, x_cmpEq, x_cmpNe, x_cmpLt, x_cmpLe, x_cmpGt, x_cmpGe, x_cmpIs, x_cmpIn, x_eqI, x_neI, x_ltI, x_leI, x_gtI, x_geI, x_isI, x_add, x_sub, x_mul, x_mod, x_div, x_xor, x_and, x_shr, x_neg, x_abs, x_int, x_isi, x_truB, x_mutI, x_mutB, x_mutL, x_mutT, x_indI, x_indB, x_len, x_lenT, x_lenS, x_andV, x_orV, R.bind_ok, R.bind_exc, R.bind_bad, List.getElem?_cons_zero, List.getElem?_cons_succ, List.set_cons_zero, List.set_cons_succ, Option.map_some, if_true, if_false, decide_eq_true_eq, Bool.not_eq_true, decide_true, decide_false, Bool.false_eq_true, Bool.not_true, Bool.not_false, and_true, true_and, and_false, false_and, List.map_cons, List.map_nil, List.replicate, List.cons_append, List.nil_append, List.length_cons, List.length_nil, List.append_nil, reduceCtorEq, Nat.reduceSub, Nat.reduceAdd, hasOwn, List.any_cons, List.any_nil, Bool.or_false, Bool.or_true, Bool.true_or, Bool.false_or, List.isEmpty_nil, ite_self, eq_self, h1, h2]
def rowE : M D := opM (f2 modD) [.ex (opM (f1 Dv.intD) [.ex (opM (f2 ixD) [.va 2, .ex (opM (f2 addD) [.ex (retM (.int 1)), .va 12])])]), .ex (retM (.int 256))]
theorem rowE_ok (l : List D) (i x : Int) (h : ixD (.lst l) (.int (1 + i)) = some (.int x)) (s0 s1 s3 s4 s5 s6 s7 s8 s9 s10 s11 s13 s14 s15 s16 : Sl) :
    rowE [s0, s1, .own (.lst l), s3, s4, s5, s6, s7, s8, s9, s10, s11, .val (.int i), s13, s14, s15, s16] = .ok (.int (x % 256)) [s0, s1, .own (.lst l), s3, s4, s5, s6, s7, s8, s9, s10, s11, .val (.int i), s13, s14, s15, s16] := by
  have p256 : (0 : Int) < 256 := by decide
  unfold rowE
  simp only [x_seqS, x_nxS, x_bkS, x_ctS, x_retS, x_retNS, x_retV, x_ifS, x_asgS, x_slotOf, x_slotOf', x_opM, x_opI, x_ev0, x_ev1, x_ev2, x_sl1, x_sl2, x_retM, x_varM, x_f1, x_f2, x_boolM, x_truM, x_notM, x_andM, x_orM, x_iteM, x_tvM, x_lstM, x_tupM, x_forS, x_whileS, x_parS, x_par0, x_par1, x_appS, x_setS, x_callM, x_cmpEq, x_cmpNe, x_cmpLt, x_cmpLe, x_cmpGt, x_cmpGe, x_cmpIs, x_cmpIn, x_eqI, x_neI, x_ltI, x_leI, x_gtI, x_geI, x_isI, x_add, x_sub, x_mul, x_mod, x_div, x_xor, x_and, x_shr, x_neg, x_abs, x_int, x_isi, x_truB, x_mutI, x_mutB, x_mutL, x_mutT, x_indI, x_indB, x_len, x_lenT, x_lenS, x_andV, x_orV, R.bind_ok, R.bind_exc, R.bind_bad, List.getElem?_cons_zero, List.getElem?_cons_succ, List.set_cons_zero, List.set_cons_succ, Option.map_some, if_true, if_false, decide_eq_true_eq, Bool.not_eq_true, decide_true, decide_false, Bool.false_eq_true, Bool.not_true, Bool.not_false, and_true, true_and, and_false, false_and, List.map_cons, List.map_nil, List.replicate, List.cons_append, List.nil_append, List.length_cons, List.length_nil, List.append_nil, reduceCtorEq, Nat.reduceSub, Nat.reduceAdd, hasOwn, List.any_cons, List.any_nil, Bool.or_false, Bool.or_true, Bool.true_or, Bool.false_or, List.isEmpty_nil, ite_self, eq_self, h, p256]
theorem rowN (l : List D) (x : Int) (h : ixD (.lst l) (.int 0) = some (.int x)) (s0 s1 s3 s4 s5 s6 s7 s8 s9 s10 s11 s12 s13 s14 s15 s16 : Sl) :
    evO [.ex (opM (f2 modD) [.ex (opM (f1 Dv.intD) [.ex (opM (f2 ixD) [.va 2, .ex (retM (.int 0))])]), .ex (retM (.int 41))])] [s0, s1, .own (.lst l), s3, s4, s5, s6, s7, s8, s9, s10, s11, s12, s13, s14, s15, s16] = .ok [.int (x % 41)] [s0, s1, .own (.lst l), s3, s4, s5, s6, s7, s8, s9, s10, s11, s12, s13, s14, s15, s16] := by
  have p41 : (0 : Int) < 41 := by decide
  simp only [x_seqS, x_nxS, x_bkS, x_ctS, x_retS, x_retNS, x_retV, x_ifS, x_asgS, x_slotOf, x_slotOf', x_opM, x_opI, x_ev0, x_ev1, x_ev2, x_sl1, x_sl2, x_retM, x_varM, x_f1, x_f2, x_boolM, x_truM, x_notM, x_andM, x_orM, x_iteM, x_tvM, x_lstM, x_tupM, x_forS, x_whileS, x_parS, x_par0, x_par1, x_appS, x_setS, x_callM, x_cmpEq, x_cmpNe, x_cmpLt, x_cmpLe, x_cmpGt, x_cmpGe, x_cmpIs, x_cmpIn, x_eqI, x_neI, x_ltI, x_leI, x_gtI, x_geI, x_isI, x_add, x_sub, x_mul, x_mod, x_div, x_xor, x_and, x_shr, x_neg, x_abs, x_int, x_isi, x_truB, x_mutI, x_mutB, x_mutL, x_mutT, x_indI, x_indB, x_len, x_lenT, x_lenS, x_andV, x_orV, R.bind_ok, R.bind_exc, R.bind_bad, List.getElem?_cons_zero, List.getElem?_cons_succ, List.set_cons_zero, List.set_cons_succ, Option.map_some, if_true, if_false, decide_eq_true_eq, Bool.not_eq_true, decide_true, decide_false, Bool.false_eq_true, Bool.not_true, Bool.not_false, and_true, true_and, and_false, false_and, List.map_cons, List.map_nil, List.replicate, List.cons_append, List.nil_append, List.length_cons, List.length_nil, List.append_nil, reduceCtorEq, Nat.reduceSub, Nat.reduceAdd, hasOwn, List.any_cons, List.any_nil, Bool.or_false, Bool.or_true, Bool.true_or, Bool.false_or, List.isEmpty_nil, ite_self, eq_self, h, p41]
def h2S : S := asgS 3 (opM (f1 tupleD) [.ex (compM (opI rng1 [.ex (opM (f2 modD) [.ex (opM (f1 Dv.intD) [.ex (opM (f2 ixD) [.va 2, .ex (retM (.int 0))])]), .ex (retM (.int 41))])]) [12] (.nm 12) yesM rowE)]) true
theorem asg_of {i : Nat} {m : M D} {ρ ρ' : En} {d : D} (h : m ρ = .ok d ρ') (hm : isMut d = false) (fr : Bool) : asgS i m fr ρ = .ok .nx (ρ'.set i (.val d)) := by
  unfold asgS
  rw [h, R.bind_ok]
  unfold slotOf
  rw [if_neg (by rw [hm]; simp)]
/-- a drawn number, made small -/
theorem small {ds : List Int} (hl : ds.length = 70) (hd : ∀ d ∈ ds, 0 ≤ d ∧ d < 5040) {j : Nat} (hj : j < 70) : ∃ a : Nat, ds[j]? = some (a : Int) ∧ a < 5040 := by
  have h : ds[j]? = some (ds[j]'(by omega)) := List.getElem?_eq_getElem (by omega)
  have h1 := hd _ (List.mem_of_getElem? h)
  refine ⟨(ds[j]'(by omega)).toNat, ?_, by omega⟩
  rw [h, Int.toNat_of_nonneg h1.1]
theorem ix_ints {l : List Int} {i : Int} {x : Int} (h0 : 0 ≤ i) (h : l[i.toNat]? = some x) : ixD (.lst (l.map D.int)) (.int i) = some (.int x) := by
  have hl := (List.getElem?_eq_some_iff.mp h).1
  show ((ixI (l.map D.int).length i).bind fun j => (l.map D.int)[j]?) = _
  rw [List.length_map, ixI_nn h0 (by omega)]
  show (l.map D.int)[i.toNat]? = _
  rw [List.getElem?_map, h]
  rfl
/-- the row drawn -/
def rowOf (ds : List Int) (n : Nat) : List Nat := (List.range n).map fun i => (ds.getD (1 + i) 0 % 256).toNat
theorem rowOf_lt (ds : List Int) (n : Nat) : ∀ b ∈ rowOf ds n, b < 256 := fun b hb => by
  obtain ⟨i, _, e⟩ := List.mem_map.mp hb
  have h1 := Int.emod_nonneg (ds.getD (1 + i) 0) (show (256 : Int) ≠ 0 by decide)
  have h2 := Int.emod_lt_of_pos (ds.getD (1 + i) 0) (show (0 : Int) < 256 by decide)
  subst e
  omega
theorem h2S_ok {ds : List Int} (hl : ds.length = 70) (hd : ∀ d ∈ ds, 0 ≤ d ∧ d < 5040) (s0 s1 s3 s4 s5 s6 s7 s8 s9 s10 s11 s13 s14 s15 s16 : Sl) (s12 : Sl) (hf : freeSlots [12] [s0, s1, .own (.lst (ds.map D.int)), s3, s4, s5, s6, s7, s8, s9, s10, s11, s12, s13, s14, s15, s16] = true) :
    ∃ n, n ≤ 40 ∧ h2S [s0, s1, .own (.lst (ds.map D.int)), s3, s4, s5, s6, s7, s8, s9, s10, s11, s12, s13, s14, s15, s16] = .ok .nx [s0, s1, .own (.lst (ds.map D.int)), .val (tI (rowOf ds n)), s4, s5, s6, s7, s8, s9, s10, s11, s12, s13, s14, s15, s16] := by
  obtain ⟨a, ha, _⟩ := small hl hd (j := 0) (by decide)
  refine ⟨a % 41, by omega, ?_⟩
  have i0 := ix_ints (i := 0) (by decide) ha
  have hr : rng1 [.int ((a : Int) % 41)] = some (rangeL 0 (a % 41) 1) := by
    have := rng_nat (n := a % 41) (by omega)
    rw [show ((a % 41 : Nat) : Int) = (a : Int) % 41 by omega] at this
    exact this
  have hm := opI_ok (rowN (ds.map D.int) (a : Int) i0 s0 s1 s3 s4 s5 s6 s7 s8 s9 s10 s11 s12 s13 s14 s15 s16) hr
  have hc := compM_ok (v := 12) (elt := rowE) (fun d => match d with
    | .int i => .int (ds.getD (1 + i.toNat) 0 % 256)
    | _ => .non) hm hf (by rw [rangeL, List.length_map, List.length_range]; omega) (by show 12 < 17; decide) (fun d hd2 => by
      obtain ⟨i, hi, e⟩ := List.mem_map.mp hd2
      have hi' := List.mem_range.mp hi
      subst e
      obtain ⟨x, hx, _⟩ := small hl hd (j := 1 + i) (by omega)
      rw [show (0 : Int) + (i : Int) * 1 = (i : Int) by omega]
      have h := rowE_ok (ds.map D.int) (i : Int) (x : Int) (ix_ints (by omega) (by rw [show (1 + (i : Int)).toNat = 1 + i by omega]; exact hx)) s0 s1 s3 s4 s5 s6 s7 s8 s9 s10 s11 s13 s14 s15 s16
      show rowE [s0, s1, .own (.lst (ds.map D.int)), s3, s4, s5, s6, s7, s8, s9, s10, s11, .val (.int (i : Int)), s13, s14, s15, s16] = .ok (.int (ds.getD (1 + (i : Int).toNat) 0 % 256)) _
      rw [h, Int.toNat_natCast, List.getD_eq_getElem?_getD, hx]
      rfl)
  have e : ((rangeL 0 (a % 41) 1).map fun d => match d with
    | .int i => D.int (ds.getD (1 + i.toNat) 0 % 256)
    | _ => .non) = (rowOf ds (a % 41)).map fun x => D.int (x : Nat) := by
    rw [rowOf, rangeL, List.map_map, List.map_map]
    apply List.map_congr_left
    intro i _
    show D.int (ds.getD (1 + (0 + (i : Int) * 1).toNat) 0 % 256) = D.int (((ds.getD (1 + i) 0 % 256).toNat : Nat) : Int)
    rw [show (0 + (i : Int) * 1).toNat = i by omega, Int.toNat_of_nonneg (Int.emod_nonneg _ (by decide))]
  rw [e] at hc
  unfold h2S
  exact asg_of (opM_ok (f := f1 tupleD) (ev_one hc) rfl) rfl true
/-! ### sums of the row, the first two questions -/
def h3S (f : Fn) (i : Nat) (w p : Int) : S := asgS i (callM f [.va 3, .ex (retM (.int w)), .ex (retM (.int p))]) true
theorem h3S_4 (f : Fn) (w p : Int) (r : D) (c : Int) (h : f [r, .int w, .int p] = .ok (.int c)) (s0 s1 s2 s4 s5 s6 s7 s8 s9 s10 s11 s12 s13 s14 s15 s16 : Sl) :
    h3S f 4 w p [s0, s1, s2, .val r, s4, s5, s6, s7, s8, s9, s10, s11, s12, s13, s14, s15, s16] = .ok .nx [s0, s1, s2, .val r, .val (.int c), s5, s6, s7, s8, s9, s10, s11, s12, s13, s14, s15, s16] := by
  unfold h3S
  simp only [x_seqS, x_nxS, x_bkS, x_ctS, x_retS, x_retNS, x_retV, x_ifS, x_asgS, x_slotOf, x_slotOf', x_opM, x_opI, x_ev0, x_ev1, x_ev2, x_sl1, x_sl2, x_retM, x_varM, x_f1, x_f2, x_boolM, x_truM, x_notM, x_andM, x_orM, x_iteM, x_tvM, x_lstM, x_tupM, x_forS, x_whileS, x_parS, x_par0, x_par1, x_appS, x_setS, x_callM, x_cmpEq, x_cmpNe, x_cmpLt, x_cmpLe, x_cmpGt, x_cmpGe, x_cmpIs, x_cmpIn, x_eqI, x_neI, x_ltI, x_leI, x_gtI, x_geI, x_isI, x_add, x_sub, x_mul, x_mod, x_div, x_xor, x_and, x_shr, x_neg, x_abs, x_int, x_isi, x_truB, x_mutI, x_mutB, x_mutL, x_mutT, x_indI, x_indB, x_len, x_lenT, x_lenS, x_andV, x_orV, R.bind_ok, R.bind_exc, R.bind_bad, List.getElem?_cons_zero, List.getElem?_cons_succ, List.set_cons_zero, List.set_cons_succ, Option.map_some, if_true, if_false, decide_eq_true_eq, Bool.not_eq_true, decide_true, decide_false, Bool.false_eq_true, Bool.not_true, Bool.not_false, and_true, true_and, and_false, false_and, List.map_cons, List.map_nil, List.replicate, List.cons_append, List.nil_append, List.length_cons, List.length_nil, List.append_nil, reduceCtorEq, Nat.reduceSub, Nat.reduceAdd, hasOwn, List.any_cons, List.any_nil, Bool.or_false, Bool.or_true, Bool.true_or, Bool.false_or, List.isEmpty_nil, ite_self, eq_self, h]
theorem h3S_5 (f : Fn) (w p : Int) (r : D) (c : Int) (h : f [r, .int w, .int p] = .ok (.int c)) (s0 s1 s2 s4 s5 s6 s7 s8 s9 s10 s11 s12 s13 s14 s15 s16 : Sl) :
    h3S f 5 w p [s0, s1, s2, .val r, s4, s5, s6, s7, s8, s9, s10, s11, s12, s13, s14, s15, s16] = .ok .nx [s0, s1, s2, .val r, s4, .val (.int c), s6, s7, s8, s9, s10, s11, s12, s13, s14, s15, s16] := by
  unfold h3S
  simp only [x_seqS, x_nxS, x_bkS, x_ctS, x_retS, x_retNS, x_retV, x_ifS, x_asgS, x_slotOf, x_slotOf', x_opM, x_opI, x_ev0, x_ev1, x_ev2, x_sl1, x_sl2, x_retM, x_varM, x_f1, x_f2, x_boolM, x_truM, x_notM, x_andM, x_orM, x_iteM, x_tvM, x_lstM, x_tupM, x_forS, x_whileS, x_parS, x_par0, x_par1, x_appS, x_setS, x_callM, x_cmpEq, x_cmpNe, x_cmpLt, x_cmpLe, x_cmpGt, x_cmpGe, x_cmpIs, x_cmpIn, x_eqI, x_neI, x_ltI, x_leI, x_gtI, x_geI, x_isI, x_add, x_sub, x_mul, x_mod, x_div, x_xor, x_and, x_shr, x_neg, x_abs, x_int, x_isi, x_truB, x_mutI, x_mutB, x_mutL, x_mutT, x_indI, x_indB, x_len, x_lenT, x_lenS, x_andV, x_orV, R.bind_ok, R.bind_exc, R.bind_bad, List.getElem?_cons_zero, List.getElem?_cons_succ, List.set_cons_zero, List.set_cons_succ, Option.map_some, if_true, if_false, decide_eq_true_eq, Bool.not_eq_true, decide_true, decide_false, Bool.false_eq_true, Bool.not_true, Bool.not_false, and_true, true_and, and_false, false_and, List.map_cons, List.map_nil, List.replicate, List.cons_append, List.nil_append, List.length_cons, List.length_nil, List.append_nil, reduceCtorEq, Nat.reduceSub, Nat.reduceAdd, hasOwn, List.any_cons, List.any_nil, Bool.or_false, Bool.or_true, Bool.true_or, Bool.false_or, List.isEmpty_nil, ite_self, eq_self, h]
def h4S (fis fs fg fb : Fn) (g1 g2 : D → D → Option D) : S := ifS (orM (notM (truM (.ex (callM fis [.ex (callM fs [.va 3]), .va 4])))) (orM (notM (truM (.ex (callM fis [.ex (callM fg [.va 3]), .va 5])))) (notM (truM (.ex (callM fis [.ex (callM fb [.va 3]), .ex (tupM [(opM (f2 g1) [.va 5, .ex (retM (.int 8))]), (opM (f2 g2) [.va 5, .ex (retM (.int 255))])])]))))))
        (retS (retM (.bl false)) false)
        nxS
theorem h4S_ok (fis fs fg fb : Fn) (g1 g2 : D → D → Option D) (r t : D) (a b x y : Int) (h1 : fs [r] = .ok (.int a)) (h2 : fg [r] = .ok (.int b)) (h3 : fb [r] = .ok (.tup [.int x, .int y])) (k1 : g1 (.int b) (.int 8) = some (.int x)) (k2 : g2 (.int b) (.int 255) = some (.int y)) (hi : ∀ i, fis [.int i, .int i] = .ok (.bl true)) (hp : fis [.tup [.int x, .int y], .tup [.int x, .int y]] = .ok (.bl true)) (hx : indep (.tup [.int x, .int y]) = true)
    (s0 s1 s2 s6 s7 s8 s9 s10 s11 s12 s13 s14 s15 s16 : Sl) :
    h4S fis fs fg fb g1 g2 [s0, s1, s2, .val r, .val (.int a), .val (.int b), s6, s7, s8, s9, s10, s11, s12, s13, s14, s15, s16] = .ok .nx [s0, s1, s2, .val r, .val (.int a), .val (.int b), s6, s7, s8, s9, s10, s11, s12, s13, s14, s15, s16] := by
  unfold h4S
  simp only [x_seqS, x_nxS, x_bkS, x_ctS, x_retS, x_retNS, x_retV, x_ifS, x_asgS, x_slotOf, x_slotOf', x_opM, x_opI, x_ev0, x_ev1, x_ev2, x_sl1, x_sl2, x_retM, x_varM, x_f1, x_f2, x_boolM, x_truM, x_notM, x_andM, x_orM, x_iteM, x_tvM, x_lstM, x_tupM, x_forS, x_whileS, x_parS, x_par0, x_par1, x_appS, x_setS, x_callM, x_cmpEq, x_cmpNe, x_cmpLt, x_cmpLe, x_cmpGt, x_cmpGe, x_cmpIs, x_cmpIn, x_eqI, x_neI, x_ltI, x_leI, x_gtI, x_geI, x_isI, x_add, x_sub, x_mul, x_mod, x_div, x_xor, x_and, x_shr, x_neg, x_abs, x_int, x_isi, x_truB, x_mutI, x_mutB, x_mutL, x_mutT, x_indI, x_indB, x_len, x_lenT, x_lenS, x_andV, x_orV, R.bind_ok, R.bind_exc, R.bind_bad, List.getElem?_cons_zero, List.getElem?_cons_succ, List.set_cons_zero, List.set_cons_succ, Option.map_some, if_true, if_false, decide_eq_true_eq, Bool.not_eq_true, decide_true, decide_false, Bool.false_eq_true, Bool.not_true, Bool.not_false, and_true, true_and, and_false, false_and, List.map_cons, List.map_nil, List.replicate, List.cons_append, List.nil_append, List.length_cons, List.length_nil, List.append_nil, reduceCtorEq, Nat.reduceSub, Nat.reduceAdd, hasOwn, List.any_cons, List.any_nil, Bool.or_false, Bool.or_true, Bool.true_or, Bool.false_or, List.isEmpty_nil, ite_self, eq_self, h1, h2, h3, k1, k2, hi, hp]
def h5S (fis fs fg fm : Fn) (ad : D → D → Option D) : S := ifS (orM (notM (truM (.ex (callM fis [.ex (callM fs [.ex (opM (f2 ad) [.va 3, .ex (tupM [(varM 4)])])]), .ex (retM (.int 0))])))) (notM (truM (.ex (callM fis [.ex (callM fg [.ex (callM fm [.va 3])]), .ex (retM (.int 0))])))))
        (retS (retM (.bl false)) false)
        nxS
theorem h5S_ok (fis fs fg fm : Fn) (ad : D → D → Option D) (r r1 r2 : D) (a : Int) (h0 : ad r (.tup [.int a]) = some r1) (h1 : fs [r1] = .ok (.int 0)) (h2 : fm [r] = .ok r2) (h3 : fg [r2] = .ok (.int 0)) (hi : ∀ i, fis [.int i, .int i] = .ok (.bl true)) (s0 s1 s2 s5 s6 s7 s8 s9 s10 s11 s12 s13 s14 s15 s16 : Sl) :
    h5S fis fs fg fm ad [s0, s1, s2, .val r, .val (.int a), s5, s6, s7, s8, s9, s10, s11, s12, s13, s14, s15, s16] = .ok .nx [s0, s1, s2, .val r, .val (.int a), s5, s6, s7, s8, s9, s10, s11, s12, s13, s14, s15, s16] := by
  unfold h5S
  simp only [x_seqS, x_nxS, x_bkS, x_ctS, x_retS, x_retNS, x_retV, x_ifS, x_asgS, x_slotOf, x_slotOf', x_opM, x_opI, x_ev0, x_ev1, x_ev2, x_sl1, x_sl2, x_retM, x_varM, x_f1, x_f2, x_boolM, x_truM, x_notM, x_andM, x_orM, x_iteM, x_tvM, x_lstM, x_tupM, x_forS, x_whileS, x_parS, x_par0, x_par1, x_appS, x_setS, x_callM, x_cmpEq, x_cmpNe, x_cmpLt, x_cmpLe, x_cmpGt, x_cmpGe, x_cmpIs, x_cmpIn, x_eqI, x_neI, x_ltI, x_leI, x_gtI, x_geI, x_isI, x_add, x_sub, x_mul, x_mod, x_div, x_xor, x_and, x_shr, x_neg, x_abs, x_int, x_isi, x_truB, x_mutI, x_mutB, x_mutL, x_mutT, x_indI, x_indB, x_len, x_lenT, x_lenS, x_andV, x_orV, R.bind_ok, R.bind_exc, R.bind_bad, List.getElem?_cons_zero, List.getElem?_cons_succ, List.set_cons_zero, List.set_cons_succ, Option.map_some, if_true, if_false, decide_eq_true_eq, Bool.not_eq_true, decide_true, decide_false, Bool.false_eq_true, Bool.not_true, Bool.not_false, and_true, true_and, and_false, false_and, List.map_cons, List.map_nil, List.replicate, List.cons_append, List.nil_append, List.length_cons, List.length_nil, List.append_nil, reduceCtorEq, Nat.reduceSub, Nat.reduceAdd, hasOwn, List.any_cons, List.any_nil, Bool.or_false, Bool.or_true, Bool.true_or, Bool.false_or, List.isEmpty_nil, ite_self, eq_self, h0, h1, h2, h3, hi]
/-! ### the cut -/
def h6S : S := asgS 6 (opM (f2 modD) [.ex (opM (f1 Dv.intD) [.ex (opM (f2 ixD) [.va 2, .ex (retM (.int 42))])]), .ex (opM (f2 addD) [.ex (opM (f1 lenD) [.va 3]), .ex (retM (.int 1))])]) true
theorem h6S_ok (l : List D) (x : Int) (r : D) (n : Int) (h : ixD (.lst l) (.int 42) = some (.int x)) (hn : lenD r = some (.int n)) (p : 0 < n + 1) (s0 s1 s4 s5 s6 s7 s8 s9 s10 s11 s12 s13 s14 s15 s16 : Sl) :
    h6S [s0, s1, .own (.lst l), .val r, s4, s5, s6, s7, s8, s9, s10, s11, s12, s13, s14, s15, s16] = .ok .nx [s0, s1, .own (.lst l), .val r, s4, s5, .val (.int (x % (n + 1))), s7, s8, s9, s10, s11, s12, s13, s14, s15, s16] := by
  unfold h6S
  simp only [x_seqS, x_nxS, x_bkS, x_ctS, x_retS, x_retNS, x_retV, x_ifS, x_asgS, x_slotOf, x_slotOf', x_opM, x_opI, x_ev0, x_ev1, x_ev2, x_sl1, x_sl2, x_retM, x_varM, x_f1, x_f2, x_boolM, x_truM, x_notM, x_andM, x_orM, x_iteM, x_tvM, x_lstM, x_tupM, x_forS, x_whileS, x_parS, x_par0, x_par1, x_appS, x_setS, x_callM, x_cmpEq, x_cmpNe, x_cmpLt, x_cmpLe, x_cmpGt, x_cmpGe, x_cmpIs, x_cmpIn, x_eqI, x_neI, x_ltI, x_leI, x_gtI, x_geI, x_isI, x_add, x_sub, x_mul, x_mod, x_div, x_xor, x_and, x_shr, x_neg, x_abs, x_int, x_isi, x_truB, x_mutI, x_mutB, x_mutL, x_mutT, x_indI, x_indB, x_len, x_lenT, x_lenS, x_andV, x_orV, R.bind_ok, R.bind_exc, R.bind_bad, List.getElem?_cons_zero, List.getElem?_cons_succ, List.set_cons_zero, List.set_cons_succ, Option.map_some, if_true, if_false, decide_eq_true_eq, Bool.not_eq_true, decide_true, decide_false, Bool.false_eq_true, Bool.not_true, Bool.not_false, and_true, true_and, and_false, false_and, List.map_cons, List.map_nil, List.replicate, List.cons_append, List.nil_append, List.length_cons, List.length_nil, List.append_nil, reduceCtorEq, Nat.reduceSub, Nat.reduceAdd, hasOwn, List.any_cons, List.any_nil, Bool.or_false, Bool.or_true, Bool.true_or, Bool.false_or, List.isEmpty_nil, ite_self, eq_self, h, hn, p]
def h7S (f : Fn) : S := asgS 7 (callM f [.ex (opM slH [.va 3, .va 6]), .ex (retM (.int 16)), .ex (retM (.int 32773))]) true
theorem h7S_ok (f : Fn) (r r1 : D) (c u : Int) (h : slH [r, .int c] = some r1) (h1 : f [r1, .int 16, .int 32773] = .ok (.int u)) (s0 s1 s2 s4 s5 s7 s8 s9 s10 s11 s12 s13 s14 s15 s16 : Sl) :
    h7S f [s0, s1, s2, .val r, s4, s5, .val (.int c), s7, s8, s9, s10, s11, s12, s13, s14, s15, s16] = .ok .nx [s0, s1, s2, .val r, s4, s5, .val (.int c), .val (.int u), s8, s9, s10, s11, s12, s13, s14, s15, s16] := by
  unfold h7S
  generalize slH = g at h ⊢
  simp only [x_seqS, x_nxS, x_bkS, x_ctS, x_retS, x_retNS, x_retV, x_ifS, x_asgS, x_slotOf, x_slotOf', x_opM, x_opI, x_ev0, x_ev1, x_ev2, x_sl1, x_sl2, x_retM, x_varM, x_f1, x_f2, x_boolM, x_truM, x_notM, x_andM, x_orM, x_iteM, x_tvM, x_lstM, x_tupM, x_forS, x_whileS, x_parS, x_par0, x_par1, x_appS, x_setS, x_callM, x_cmpEq, x_cmpNe, x_cmpLt, x_cmpLe, x_cmpGt, x_cmpGe, x_cmpIs, x_cmpIn, x_eqI, x_neI, x_ltI, x_leI, x_gtI, x_geI, x_isI, x_add, x_sub, x_mul, x_mod, x_div, x_xor, x_and, x_shr, x_neg, x_abs, x_int, x_isi, x_truB, x_mutI, x_mutB, x_mutL, x_mutT, x_indI, x_indB, x_len, x_lenT, x_lenS, x_andV, x_orV, R.bind_ok, R.bind_exc, R.bind_bad, List.getElem?_cons_zero, List.getElem?_cons_succ, List.set_cons_zero, List.set_cons_succ, Option.map_some, if_true, if_false, decide_eq_true_eq, Bool.not_eq_true, decide_true, decide_false, Bool.false_eq_true, Bool.not_true, Bool.not_false, and_true, true_and, and_false, false_and, List.map_cons, List.map_nil, List.replicate, List.cons_append, List.nil_append, List.length_cons, List.length_nil, List.append_nil, reduceCtorEq, Nat.reduceSub, Nat.reduceAdd, hasOwn, List.any_cons, List.any_nil, Bool.or_false, Bool.or_true, Bool.true_or, Bool.false_or, List.isEmpty_nil, ite_self, eq_self, h, h1]
def h8S (fis fj f : Fn) : S := ifS (notM (truM (.ex (callM fis [.ex (callM fj [.va 7, .ex (callM f [.ex (opM slL [.va 3, .va 6]), .ex (retM (.int 16)), .ex (retM (.int 32773))]), .ex (opM (f2 subD) [.ex (opM (f1 lenD) [.va 3]), .va 6])]), .va 5]))))
        (retS (retM (.bl false)) false)
        nxS
theorem h8S_ok (fis fj f : Fn) (r r1 : D) (c u v g n : Int) (h : slL [r, .int c] = some r1) (h1 : f [r1, .int 16, .int 32773] = .ok (.int v)) (hn : lenD r = some (.int n)) (h2 : fj [.int u, .int v, .int (n - c)] = .ok (.int g)) (hi : ∀ i, fis [.int i, .int i] = .ok (.bl true)) (s0 s1 s2 s4 s8 s9 s10 s11 s12 s13 s14 s15 s16 : Sl) :
    h8S fis fj f [s0, s1, s2, .val r, s4, .val (.int g), .val (.int c), .val (.int u), s8, s9, s10, s11, s12, s13, s14, s15, s16] = .ok .nx [s0, s1, s2, .val r, s4, .val (.int g), .val (.int c), .val (.int u), s8, s9, s10, s11, s12, s13, s14, s15, s16] := by
  unfold h8S
  generalize slL = q at h ⊢
  simp only [x_seqS, x_nxS, x_bkS, x_ctS, x_retS, x_retNS, x_retV, x_ifS, x_asgS, x_slotOf, x_slotOf', x_opM, x_opI, x_ev0, x_ev1, x_ev2, x_sl1, x_sl2, x_retM, x_varM, x_f1, x_f2, x_boolM, x_truM, x_notM, x_andM, x_orM, x_iteM, x_tvM, x_lstM, x_tupM, x_forS, x_whileS, x_parS, x_par0, x_par1, x_appS, x_setS, x_callM, x_cmpEq, x_cmpNe, x_cmpLt, x_cmpLe, x_cmpGt, x_cmpGe, x_cmpIs, x_cmpIn, x_eqI, x_neI, x_ltI, x_leI, x_gtI, x_geI, x_isI, x_add, x_sub, x_mul, x_mod, x_div, x_xor, x_and, x_shr, x_neg, x_abs, x_int, x_isi, x_truB, x_mutI, x_mutB, x_mutL, x_mutT, x_indI, x_indB, x_len, x_lenT, x_lenS, x_andV, x_orV, R.bind_ok, R.bind_exc, R.bind_bad, List.getElem?_cons_zero, List.getElem?_cons_succ, List.set_cons_zero, List.set_cons_succ, Option.map_some, if_true, if_false, decide_eq_true_eq, Bool.not_eq_true, decide_true, decide_false, Bool.false_eq_true, Bool.not_true, Bool.not_false, and_true, true_and, and_false, false_and, List.map_cons, List.map_nil, List.replicate, List.cons_append, List.nil_append, List.length_cons, List.length_nil, List.append_nil, reduceCtorEq, Nat.reduceSub, Nat.reduceAdd, hasOwn, List.any_cons, List.any_nil, Bool.or_false, Bool.or_true, Bool.true_or, Bool.false_or, List.isEmpty_nil, ite_self, eq_self, h, h1, hn, h2, hi]
end K02
namespace K02
open PySem PyProof.Rows L2 Dv
/-! ### bent bits -/
theorem xors_len : ∀ (a b : List Nat), a.length = b.length → (xors a b).length = a.length
  | [], [], _ => rfl
  | [], _ :: _, h => by simp at h
  | _ :: _, [], h => by simp at h
  | x :: a, y :: b, h => by
    show (xors a b).length + 1 = a.length + 1
    rw [xors_len a b (by simpa using h)]
theorem xors_get : ∀ (a b : List Nat) (i x y : Nat), a[i]? = some x → b[i]? = some y → (xors a b)[i]? = some (x ^^^ y)
  | [], _, i, x, y, h, _ => by simp at h
  | _ :: _, [], i, x, y, _, h => by simp at h
  | u :: a, v :: b, 0, x, y, h, h2 => by
    cases h; cases h2; rfl
  | u :: a, v :: b, i + 1, x, y, h, h2 => xors_get a b i x y (by simpa using h) (by simpa using h2)
theorem xors_app : ∀ (a b c d : List Nat), a.length = b.length → xors (a ++ c) (b ++ d) = xors a b ++ xors c d
  | [], [], _, _, _ => rfl
  | [], _ :: _, _, _, h => by simp at h
  | _ :: _, [], _, _, h => by simp at h
  | x :: a, y :: b, c, d, h => by
    show (x ^^^ y) :: xors (a ++ c) (b ++ d) = _
    rw [xors_app a b c d (by simpa using h)]
    rfl
theorem xors_zs' : ∀ (bs : List Nat), xors bs (zs bs.length) = bs
  | [] => rfl
  | b :: bs => by
    show (b ^^^ 0) :: xors bs (zs bs.length) = _
    rw [Nat.xor_zero, xors_zs']
theorem xors_lt : ∀ (a b : List Nat), (∀ x ∈ a, x < 2) → (∀ x ∈ b, x < 2) → ∀ x ∈ xors a b, x < 2
  | [], _, _, _, x, h => by cases h
  | _ :: _, [], _, _, x, h => by cases h
  | u :: a, v :: b, h1, h2, x, h => by
    rcases List.mem_cons.mp h with rfl | h
    · exact Nat.xor_lt_two_pow (n := 1) (h1 u List.mem_cons_self) (h2 v List.mem_cons_self)
    · exact xors_lt a b (fun z hz => h1 z (List.mem_cons_of_mem _ hz)) (fun z hz => h2 z (List.mem_cons_of_mem _ hz)) x h
def bend (bs : List Nat) (t n c : Nat) : List Nat := bs.take t ++ xors ((bs.drop t).take n) (bitsN c n) ++ bs.drop (t + n)
theorem bend_eq {bs : List Nat} {t n c : Nat} (h : t + n ≤ bs.length) : bend bs t n c = xors bs (zs t ++ bitsN c n ++ zs (bs.length - (t + n))) := by
  have e : bs = bs.take t ++ (bs.drop t).take n ++ bs.drop (t + n) := by
    rw [List.append_assoc, ← List.drop_drop, List.take_append_drop, List.take_append_drop]
  have l1 : (bs.take t).length = t := by rw [List.length_take]; omega
  have l2 : ((bs.drop t).take n).length = n := by rw [List.length_take, List.length_drop]; omega
  have l3 : (bs.drop (t + n)).length = bs.length - (t + n) := List.length_drop
  have h1 := xors_zs' (bs.take t)
  rw [l1] at h1
  have h3 := xors_zs' (bs.drop (t + n))
  rw [l3] at h3
  have : xors (bs.take t ++ (bs.drop t).take n ++ bs.drop (t + n)) (zs t ++ bitsN c n ++ zs (bs.length - (t + n))) = bend bs t n c := by
    rw [xors_app _ _ _ _ (by rw [List.length_append, List.length_append, l1, l2, List.length_replicate, bitsN_len]), xors_app _ _ _ _ (by rw [l1, List.length_replicate]), h1, h3]
    rfl
  rw [← this, ← e]
theorem bend_len {bs : List Nat} {t n c : Nat} (h : t + n ≤ bs.length) : (bend bs t n c).length = bs.length := by
  rw [bend_eq h, xors_len]
  rw [List.length_append, List.length_append, List.length_replicate, bitsN_len, List.length_replicate]
  omega
theorem e_lt (t n c r : Nat) : ∀ x ∈ zs t ++ bitsN c n ++ zs r, x < 2 := fun x hx => by
  rcases List.mem_append.mp hx with hx | hx
  · rcases List.mem_append.mp hx with hx | hx
    · exact zs_lt _ x hx
    · exact bitsN_lt c n x hx
  · exact zs_lt _ x hx
theorem bend_lt {bs : List Nat} {t n c : Nat} (h : t + n ≤ bs.length) (hb : ∀ b ∈ bs, b < 2) : ∀ b ∈ bend bs t n c, b < 2 := by
  rw [bend_eq h]
  exact xors_lt _ _ hb (e_lt _ _ _ _)
theorem bend_ne {w p : Nat} (hp : Wp w p) {bs : List Nat} {t n c : Nat} (h : t + n ≤ bs.length) (hb : ∀ b ∈ bs, b < 2) (hn : n ≤ w) (hc : c < 2 ^ n) (h0 : c ≠ 0) : crc w p 0 (bend bs t n c) ≠ crc w p 0 bs := by
  rw [bend_eq h]
  have hx := crc_xor hp bs (zs t ++ bitsN c n ++ zs (bs.length - (t + n))) 0 0 (by rw [List.length_append, List.length_append, List.length_replicate, bitsN_len, List.length_replicate]; omega) hb (e_lt _ _ _ _) (Nat.two_pow_pos w) (Nat.two_pow_pos w)
  rw [Nat.xor_self] at hx
  rw [hx]
  have hq := crc_burst hp (a := t) (b := bs.length - (t + n)) hn hc h0
  intro z
  apply hq
  have := congrArg (crc w p 0 bs ^^^ ·) z
  simp only [← Nat.xor_assoc, Nat.xor_self, Nat.zero_xor] at this
  exact this
/-! ### a turn's statements -/
def tA : S := asgS 10 (opM (f2 ixD) [.ex (tupM [(retM (.int 8)), (retM (.int 16))]), .ex (opM (f2 modD) [.va 9, .ex (retM (.int 2))])]) false
theorem tA_ok (i x : Int) (h : ixD (.tup [.int 8, .int 16]) (.int (i % 2)) = some (.int x)) (s0 s1 s2 s3 s4 s5 s6 s7 s8 s10 s11 s12 s13 s14 s15 s16 : Sl) :
    tA [s0, s1, s2, s3, s4, s5, s6, s7, s8, .val (.int i), s10, s11, s12, s13, s14, s15, s16] = .ok .nx [s0, s1, s2, s3, s4, s5, s6, s7, s8, .val (.int i), .val (.int x), s11, s12, s13, s14, s15, s16] := by
  have p2 : (0 : Int) < 2 := by decide
  unfold tA
  generalize ixD = f at h ⊢
  simp only [x_seqS, x_nxS, x_bkS, x_ctS, x_retS, x_retNS, x_retV, x_ifS, x_asgS, x_slotOf, x_slotOf', x_opM, x_opI, x_ev0, x_ev1, x_ev2, x_sl1, x_sl2, x_retM, x_varM, x_f1, x_f2, x_boolM, x_truM, x_notM, x_andM, x_orM, x_iteM, x_tvM, x_lstM, x_tupM, x_forS, x_whileS, x_parS, x_par0, x_par1, x_appS, x_setS, x_callM, x_cmpEq, x_cmpNe, x_cmpLt, x_cmpLe, x_cmpGt, x_cmpGe, x_cmpIs, x_cmpIn, x_eqI, x_neI, x_ltI, x_leI, x_gtI, x_geI, x_isI, x_add, x_sub, x_mul, x_mod, x_div, x_xor, x_and, x_shr, x_neg, x_abs, x_int, x_isi, x_truB, x_mutI, x_mutB, x_mutL, x_mutT, x_indI, x_indB, x_len, x_lenT, x_lenS, x_andV, x_orV, R.bind_ok, R.bind_exc, R.bind_bad, List.getElem?_cons_zero, List.getElem?_cons_succ, List.set_cons_zero, List.set_cons_succ, Option.map_some, if_true, if_false, decide_eq_true_eq, Bool.not_eq_true, decide_true, decide_false, Bool.false_eq_true, Bool.not_true, Bool.not_false, and_true, true_and, and_false, false_and, List.map_cons, List.map_nil, List.replicate, List.cons_append, List.nil_append, List.length_cons, List.length_nil, List.append_nil, reduceCtorEq, Nat.reduceSub, Nat.reduceAdd, hasOwn, List.any_cons, List.any_nil, Bool.or_false, Bool.or_true, Bool.true_or, Bool.false_or, List.isEmpty_nil, ite_self, eq_self, h, p2]
def tB (f : Fn) (sh : D → D → Option D) : S := asgS 11 (callM f [.ex (opM (f2 addD) [.ex (retM (.int 1)), .ex (opM (f2 modD) [.ex (opM (f2 mulD) [.ex (opM (f1 Dv.intD) [.ex (opM (f2 ixD) [.va 2, .ex (opM (f2 addD) [.ex (retM (.int 43)), .va 9])])]), .ex (opM (f1 Dv.intD) [.ex (opM (f2 ixD) [.va 2, .ex (opM (f2 addD) [.ex (retM (.int 50)), .va 9])])])]), .ex (opM (f2 subD) [.ex (opM (f2 sh) [.ex (retM (.int 1)), .va 10]), .ex (retM (.int 1))])])]), .va 10]) true
theorem tB_ok (f : Fn) (sh : D → D → Option D) (l : List D) (i a b w y : Int) (z : D) (h1 : ixD (.lst l) (.int (43 + i)) = some (.int a)) (h2 : ixD (.lst l) (.int (50 + i)) = some (.int b)) (h3 : MulOk a b) (h4 : sh (.int 1) (.int w) = some (.int y)) (h5 : 0 < y - 1) (h6 : f [.int (1 + a * b % (y - 1)), .int w] = .ok z) (hm : isMut z = false)
    (s0 s1 s3 s4 s5 s6 s7 s8 s11 s12 s13 s14 s15 s16 : Sl) : tB f sh [s0, s1, .own (.lst l), s3, s4, s5, s6, s7, s8, .val (.int i), .val (.int w), s11, s12, s13, s14, s15, s16] = .ok .nx [s0, s1, .own (.lst l), s3, s4, s5, s6, s7, s8, .val (.int i), .val (.int w), .val z, s12, s13, s14, s15, s16] := by
  unfold tB
  generalize ixD = g at h1 h2 ⊢
  simp only [x_seqS, x_nxS, x_bkS, x_ctS, x_retS, x_retNS, x_retV, x_ifS, x_asgS, x_slotOf, x_slotOf', x_opM, x_opI, x_ev0, x_ev1, x_ev2, x_sl1, x_sl2, x_retM, x_varM, x_f1, x_f2, x_boolM, x_truM, x_notM, x_andM, x_orM, x_iteM, x_tvM, x_lstM, x_tupM, x_forS, x_whileS, x_parS, x_par0, x_par1, x_appS, x_setS, x_callM, x_cmpEq, x_cmpNe, x_cmpLt, x_cmpLe, x_cmpGt, x_cmpGe, x_cmpIs, x_cmpIn, x_eqI, x_neI, x_ltI, x_leI, x_gtI, x_geI, x_isI, x_add, x_sub, x_mul, x_mod, x_div, x_xor, x_and, x_shr, x_neg, x_abs, x_int, x_isi, x_truB, x_mutI, x_mutB, x_mutL, x_mutT, x_indI, x_indB, x_len, x_lenT, x_lenS, x_andV, x_orV, R.bind_ok, R.bind_exc, R.bind_bad, List.getElem?_cons_zero, List.getElem?_cons_succ, List.set_cons_zero, List.set_cons_succ, Option.map_some, if_true, if_false, decide_eq_true_eq, Bool.not_eq_true, decide_true, decide_false, Bool.false_eq_true, Bool.not_true, Bool.not_false, and_true, true_and, and_false, false_and, List.map_cons, List.map_nil, List.replicate, List.cons_append, List.nil_append, List.length_cons, List.length_nil, List.append_nil, reduceCtorEq, Nat.reduceSub, Nat.reduceAdd, hasOwn, List.any_cons, List.any_nil, Bool.or_false, Bool.or_true, Bool.true_or, Bool.false_or, List.isEmpty_nil, ite_self, eq_self, h1, h2, h3, h4, h5, h6, hm]
def tC : S := asgS 12 (opM (f2 modD) [.ex (opM (f1 Dv.intD) [.ex (opM (f2 ixD) [.va 2, .ex (opM (f2 addD) [.ex (retM (.int 57)), .va 9])])]), .ex (opM (f2 addD) [.ex (opM (f2 subD) [.ex (opM (f1 lenD) [.va 8]), .va 10]), .ex (retM (.int 1))])]) true
theorem tC_ok (l : List D) (i x w n : Int) (d : D) (h : ixD (.lst l) (.int (57 + i)) = some (.int x)) (hn : lenD d = some (.int n)) (p : 0 < n - w + 1) (s0 s1 s3 s4 s5 s6 s7 s11 s12 s13 s14 s15 s16 : Sl) :
    tC [s0, s1, .own (.lst l), s3, s4, s5, s6, s7, .val d, .val (.int i), .val (.int w), s11, s12, s13, s14, s15, s16] = .ok .nx [s0, s1, .own (.lst l), s3, s4, s5, s6, s7, .val d, .val (.int i), .val (.int w), s11, .val (.int (x % (n - w + 1))), s13, s14, s15, s16] := by
  unfold tC
  generalize ixD = g at h ⊢
  simp only [x_seqS, x_nxS, x_bkS, x_ctS, x_retS, x_retNS, x_retV, x_ifS, x_asgS, x_slotOf, x_slotOf', x_opM, x_opI, x_ev0, x_ev1, x_ev2, x_sl1, x_sl2, x_retM, x_varM, x_f1, x_f2, x_boolM, x_truM, x_notM, x_andM, x_orM, x_iteM, x_tvM, x_lstM, x_tupM, x_forS, x_whileS, x_parS, x_par0, x_par1, x_appS, x_setS, x_callM, x_cmpEq, x_cmpNe, x_cmpLt, x_cmpLe, x_cmpGt, x_cmpGe, x_cmpIs, x_cmpIn, x_eqI, x_neI, x_ltI, x_leI, x_gtI, x_geI, x_isI, x_add, x_sub, x_mul, x_mod, x_div, x_xor, x_and, x_shr, x_neg, x_abs, x_int, x_isi, x_truB, x_mutI, x_mutB, x_mutL, x_mutT, x_indI, x_indB, x_len, x_lenT, x_lenS, x_andV, x_orV, R.bind_ok, R.bind_exc, R.bind_bad, List.getElem?_cons_zero, List.getElem?_cons_succ, List.set_cons_zero, List.set_cons_succ, Option.map_some, if_true, if_false, decide_eq_true_eq, Bool.not_eq_true, decide_true, decide_false, Bool.false_eq_true, Bool.not_true, Bool.not_false, and_true, true_and, and_false, false_and, List.map_cons, List.map_nil, List.replicate, List.cons_append, List.nil_append, List.length_cons, List.length_nil, List.append_nil, reduceCtorEq, Nat.reduceSub, Nat.reduceAdd, hasOwn, List.any_cons, List.any_nil, Bool.or_false, Bool.or_true, Bool.true_or, Bool.false_or, List.isEmpty_nil, ite_self, eq_self, h, hn, p]
def bE : M D := iteM (boolM (opM (f2 (cmpD .NotEq)) [.ex (opM (f2 ixD) [.va 8, .ex (opM (f2 addD) [.va 12, .va 16])]), .ex (opM (f2 ixD) [.va 11, .va 16])])) (retM (.str "1")) (retM (.str "0"))
theorem bE_ok (c : D → D → Option D) (hc : cmpD .NotEq = c) (d e u v : D) (t o : Int) (k : Bool) (h1 : ixD d (.int (t + o)) = some u) (h2 : ixD e (.int o) = some v) (h3 : c u v = some (.bl k)) (s0 s1 s2 s3 s4 s5 s6 s7 s9 s10 s13 s14 s15 : Sl) :
    bE [s0, s1, s2, s3, s4, s5, s6, s7, .val d, s9, s10, .val e, .val (.int t), s13, s14, s15, .val (.int o)] = .ok (.str (if k = true then "1" else "0")) [s0, s1, s2, s3, s4, s5, s6, s7, .val d, s9, s10, .val e, .val (.int t), s13, s14, s15, .val (.int o)] := by
  unfold bE
  rw [hc]
  generalize ixD = g at h1 h2 ⊢
  cases k <;> simp only [x_seqS, x_nxS, x_bkS, x_ctS, x_retS, x_retNS, x_retV, x_ifS, x_asgS, x_slotOf, x_slotOf', x_opM, x_opI, x_ev0, x_ev1, x_ev2, x_sl1, x_sl2, x_retM, x_varM, x_f1, x_f2, x_boolM, x_truM, x_notM, x_andM, x_orM, x_iteM, x_tvM, x_lstM, x_tupM, x_forS, x_whileS, x_parS, x_par0, x_par1, x_appS, x_setS, x_callM, x_cmpEq, x_cmpNe, x_cmpLt, x_cmpLe, x_cmpGt, x_cmpGe, x_cmpIs, x_cmpIn, x_eqI, x_neI, x_ltI, x_leI, x_gtI, x_geI, x_isI, x_add, x_sub, x_mul, x_mod, x_div, x_xor, x_and, x_shr, x_neg, x_abs, x_int, x_isi, x_truB, x_mutI, x_mutB, x_mutL, x_mutT, x_indI, x_indB, x_len, x_lenT, x_lenS, x_andV, x_orV, R.bind_ok, R.bind_exc, R.bind_bad, List.getElem?_cons_zero, List.getElem?_cons_succ, List.set_cons_zero, List.set_cons_succ, Option.map_some, if_true, if_false, decide_eq_true_eq, Bool.not_eq_true, decide_true, decide_false, Bool.false_eq_true, Bool.not_true, Bool.not_false, and_true, true_and, and_false, false_and, List.map_cons, List.map_nil, List.replicate, List.cons_append, List.nil_append, List.length_cons, List.length_nil, List.append_nil, reduceCtorEq, Nat.reduceSub, Nat.reduceAdd, hasOwn, List.any_cons, List.any_nil, Bool.or_false, Bool.or_true, Bool.true_or, Bool.false_or, List.isEmpty_nil, ite_self, eq_self, h1, h2, h3]
def tD : S := asgS 13 (opM (f2 addD) [.ex (opM (f2 addD) [.ex (opM slH [.va 8, .va 12]), .ex (opM (f1 (joinD (.str ""))) [.ex (compM (opI rng1 [.va 10]) [16] (.nm 16) yesM bE)])]), .ex (opM slL [.va 8, .ex (opM (f2 addD) [.va 12, .va 10])])]) true
theorem tD_gen (sh sl : List D → Option D) (m : M D) (ad : D → D → Option D) (d x y z u v : D) (t w : Int) (ρ : En) (g8 : ρ[8]? = some (.val d)) (g12 : ρ[12]? = some (.val (.int t))) (g10 : ρ[10]? = some (.val (.int w))) (h1 : sh [d, .int t] = some x) (h2 : m ρ = .ok y ρ) (h3 : sl [d, .int (t + w)] = some z) (h4 : ad x y = some u) (h5 : ad u z = some v) (hm : isMut v = false) :
    asgS 13 (opM (f2 ad) [.ex (opM (f2 ad) [.ex (opM sh [.va 8, .va 12]), .ex m]), .ex (opM sl [.va 8, .ex (opM (f2 addD) [.va 12, .va 10])])]) true ρ = .ok .nx (ρ.set 13 (.val v)) := by
  simp only [x_seqS, x_nxS, x_bkS, x_ctS, x_retS, x_retNS, x_retV, x_ifS, x_asgS, x_slotOf, x_slotOf', x_opM, x_opI, x_ev0, x_ev1, x_ev2, x_sl1, x_sl2, x_retM, x_varM, x_f1, x_f2, x_boolM, x_truM, x_notM, x_andM, x_orM, x_iteM, x_tvM, x_lstM, x_tupM, x_forS, x_whileS, x_parS, x_par0, x_par1, x_appS, x_setS, x_callM, x_cmpEq, x_cmpNe, x_cmpLt, x_cmpLe, x_cmpGt, x_cmpGe, x_cmpIs, x_cmpIn, x_eqI, x_neI, x_ltI, x_leI, x_gtI, x_geI, x_isI, x_add, x_sub, x_mul, x_mod, x_div, x_xor, x_and, x_shr, x_neg, x_abs, x_int, x_isi, x_truB, x_mutI, x_mutB, x_mutL, x_mutT, x_indI, x_indB, x_len, x_lenT, x_lenS, x_andV, x_orV, R.bind_ok, R.bind_exc, R.bind_bad, List.getElem?_cons_zero, List.getElem?_cons_succ, List.set_cons_zero, List.set_cons_succ, Option.map_some, if_true, if_false, decide_eq_true_eq, Bool.not_eq_true, decide_true, decide_false, Bool.false_eq_true, Bool.not_true, Bool.not_false, and_true, true_and, and_false, false_and, List.map_cons, List.map_nil, List.replicate, List.cons_append, List.nil_append, List.length_cons, List.length_nil, List.append_nil, reduceCtorEq, Nat.reduceSub, Nat.reduceAdd, hasOwn, List.any_cons, List.any_nil, Bool.or_false, Bool.or_true, Bool.true_or, Bool.false_or, List.isEmpty_nil, ite_self, eq_self, g8, g10, g12, h1, h2, h3, h4, h5, hm]
def tE (f : Fn) : S := asgS 14 (callM f [.va 13]) true
theorem tE_ok (f : Fn) (d z : D) (h : f [d] = .ok z) (hm : isMut z = false) (s0 s1 s2 s3 s4 s5 s6 s7 s8 s9 s10 s11 s12 s14 s15 s16 : Sl) :
    tE f [s0, s1, s2, s3, s4, s5, s6, s7, s8, s9, s10, s11, s12, .val d, s14, s15, s16] = .ok .nx [s0, s1, s2, s3, s4, s5, s6, s7, s8, s9, s10, s11, s12, .val d, .val z, s15, s16] := by
  unfold tE
  simp only [x_seqS, x_nxS, x_bkS, x_ctS, x_retS, x_retNS, x_retV, x_ifS, x_asgS, x_slotOf, x_slotOf', x_opM, x_opI, x_ev0, x_ev1, x_ev2, x_sl1, x_sl2, x_retM, x_varM, x_f1, x_f2, x_boolM, x_truM, x_notM, x_andM, x_orM, x_iteM, x_tvM, x_lstM, x_tupM, x_forS, x_whileS, x_parS, x_par0, x_par1, x_appS, x_setS, x_callM, x_cmpEq, x_cmpNe, x_cmpLt, x_cmpLe, x_cmpGt, x_cmpGe, x_cmpIs, x_cmpIn, x_eqI, x_neI, x_ltI, x_leI, x_gtI, x_geI, x_isI, x_add, x_sub, x_mul, x_mod, x_div, x_xor, x_and, x_shr, x_neg, x_abs, x_int, x_isi, x_truB, x_mutI, x_mutB, x_mutL, x_mutT, x_indI, x_indB, x_len, x_lenT, x_lenS, x_andV, x_orV, R.bind_ok, R.bind_exc, R.bind_bad, List.getElem?_cons_zero, List.getElem?_cons_succ, List.set_cons_zero, List.set_cons_succ, Option.map_some, if_true, if_false, decide_eq_true_eq, Bool.not_eq_true, decide_true, decide_false, Bool.false_eq_true, Bool.not_true, Bool.not_false, and_true, true_and, and_false, false_and, List.map_cons, List.map_nil, List.replicate, List.cons_append, List.nil_append, List.length_cons, List.length_nil, List.append_nil, reduceCtorEq, Nat.reduceSub, Nat.reduceAdd, hasOwn, List.any_cons, List.any_nil, Bool.or_false, Bool.or_true, Bool.true_or, Bool.false_or, List.isEmpty_nil, ite_self, eq_self, h, hm]
def tF (fis fg f : Fn) : S := ifS (orM (notM (truM (.ex (callM fis [.ex (callM fg [.va 14]), .ex (callM f [.va 14, .ex (retM (.int 16)), .ex (retM (.int 32773))])])))) (boolM (opM (f2 (cmpD .Eq)) [.ex (callM fg [.va 14]), .va 5])))
            (retS (retM (.bl false)) false)
            nxS
theorem tF_ok (fis fg f : Fn) (d : D) (u g : Int) (h1 : fg [d] = .ok (.int u)) (h2 : f [d, .int 16, .int 32773] = .ok (.int u)) (hi : ∀ i, fis [.int i, .int i] = .ok (.bl true)) (hne : ¬ u = g) (s0 s1 s2 s3 s4 s6 s7 s8 s9 s10 s11 s12 s13 s15 s16 : Sl) :
    tF fis fg f [s0, s1, s2, s3, s4, .val (.int g), s6, s7, s8, s9, s10, s11, s12, s13, .val d, s15, s16] = .ok .nx [s0, s1, s2, s3, s4, .val (.int g), s6, s7, s8, s9, s10, s11, s12, s13, .val d, s15, s16] := by
  unfold tF
  simp only [x_seqS, x_nxS, x_bkS, x_ctS, x_retS, x_retNS, x_retV, x_ifS, x_asgS, x_slotOf, x_slotOf', x_opM, x_opI, x_ev0, x_ev1, x_ev2, x_sl1, x_sl2, x_retM, x_varM, x_f1, x_f2, x_boolM, x_truM, x_notM, x_andM, x_orM, x_iteM, x_tvM, x_lstM, x_tupM, x_forS, x_whileS, x_parS, x_par0, x_par1, x_appS, x_setS, x_callM, x_cmpEq, x_cmpNe, x_cmpLt, x_cmpLe, x_cmpGt, x_cmpGe, x_cmpIs, x_cmpIn, x_eqI, x_neI, x_ltI, x_leI, x_gtI, x_geI, x_isI, x_add, x_sub, x_mul, x_mod, x_div, x_xor, x_and, x_shr, x_neg, x_abs, x_int, x_isi, x_truB, x_mutI, x_mutB, x_mutL, x_mutT, x_indI, x_indB, x_len, x_lenT, x_lenS, x_andV, x_orV, R.bind_ok, R.bind_exc, R.bind_bad, List.getElem?_cons_zero, List.getElem?_cons_succ, List.set_cons_zero, List.set_cons_succ, Option.map_some, if_true, if_false, decide_eq_true_eq, Bool.not_eq_true, decide_true, decide_false, Bool.false_eq_true, Bool.not_true, Bool.not_false, and_true, true_and, and_false, false_and, List.map_cons, List.map_nil, List.replicate, List.cons_append, List.nil_append, List.length_cons, List.length_nil, List.append_nil, reduceCtorEq, Nat.reduceSub, Nat.reduceAdd, hasOwn, List.any_cons, List.any_nil, Bool.or_false, Bool.or_true, Bool.true_or, Bool.false_or, List.isEmpty_nil, ite_self, eq_self, h1, h2, hi, hne]
def tG (fis fs f : Fn) : S := ifS (andM (boolM (opM (f2 (cmpD .Eq)) [.va 10, .ex (retM (.int 8))])) (orM (notM (truM (.ex (callM fis [.ex (callM fs [.va 14]), .ex (callM f [.va 14, .ex (retM (.int 8)), .ex (retM (.int 7))])])))) (boolM (opM (f2 (cmpD .Eq)) [.ex (callM fs [.va 14]), .va 4]))))
            (retS (retM (.bl false)) false)
            nxS
theorem tG_8 (fis fs f : Fn) (d : D) (u g : Int) (h1 : fs [d] = .ok (.int u)) (h2 : f [d, .int 8, .int 7] = .ok (.int u)) (hi : ∀ i, fis [.int i, .int i] = .ok (.bl true)) (hne : ¬ u = g) (s0 s1 s2 s3 s5 s6 s7 s8 s9 s11 s12 s13 s15 s16 : Sl) :
    tG fis fs f [s0, s1, s2, s3, .val (.int g), s5, s6, s7, s8, s9, .val (.int 8), s11, s12, s13, .val d, s15, s16] = .ok .nx [s0, s1, s2, s3, .val (.int g), s5, s6, s7, s8, s9, .val (.int 8), s11, s12, s13, .val d, s15, s16] := by
  unfold tG
  simp only [x_seqS, x_nxS, x_bkS, x_ctS, x_retS, x_retNS, x_retV, x_ifS, x_asgS, x_slotOf, x_slotOf', x_opM, x_opI, x_ev0, x_ev1, x_ev2, x_sl1, x_sl2, x_retM, x_varM, x_f1, x_f2, x_boolM, x_truM, x_notM, x_andM, x_orM, x_iteM, x_tvM, x_lstM, x_tupM, x_forS, x_whileS, x_parS, x_par0, x_par1, x_appS, x_setS, x_callM, x_cmpEq, x_cmpNe, x_cmpLt, x_cmpLe, x_cmpGt, x_cmpGe, x_cmpIs, x_cmpIn, x_eqI, x_neI, x_ltI, x_leI, x_gtI, x_geI, x_isI, x_add, x_sub, x_mul, x_mod, x_div, x_xor, x_and, x_shr, x_neg, x_abs, x_int, x_isi, x_truB, x_mutI, x_mutB, x_mutL, x_mutT, x_indI, x_indB, x_len, x_lenT, x_lenS, x_andV, x_orV, R.bind_ok, R.bind_exc, R.bind_bad, List.getElem?_cons_zero, List.getElem?_cons_succ, List.set_cons_zero, List.set_cons_succ, Option.map_some, if_true, if_false, decide_eq_true_eq, Bool.not_eq_true, decide_true, decide_false, Bool.false_eq_true, Bool.not_true, Bool.not_false, and_true, true_and, and_false, false_and, List.map_cons, List.map_nil, List.replicate, List.cons_append, List.nil_append, List.length_cons, List.length_nil, List.append_nil, reduceCtorEq, Nat.reduceSub, Nat.reduceAdd, hasOwn, List.any_cons, List.any_nil, Bool.or_false, Bool.or_true, Bool.true_or, Bool.false_or, List.isEmpty_nil, ite_self, eq_self, h1, h2, hi, hne]
theorem tG_16 (fis fs f : Fn) (s0 s1 s2 s3 s4 s5 s6 s7 s8 s9 s11 s12 s13 s14 s15 s16 : Sl) (w : Int) (hw : ¬ w = 8) :
    tG fis fs f [s0, s1, s2, s3, s4, s5, s6, s7, s8, s9, .val (.int w), s11, s12, s13, s14, s15, s16] = .ok .nx [s0, s1, s2, s3, s4, s5, s6, s7, s8, s9, .val (.int w), s11, s12, s13, s14, s15, s16] := by
  unfold tG
  simp only [x_seqS, x_nxS, x_bkS, x_ctS, x_retS, x_retNS, x_retV, x_ifS, x_asgS, x_slotOf, x_slotOf', x_opM, x_opI, x_ev0, x_ev1, x_ev2, x_sl1, x_sl2, x_retM, x_varM, x_f1, x_f2, x_boolM, x_truM, x_notM, x_andM, x_orM, x_iteM, x_tvM, x_lstM, x_tupM, x_forS, x_whileS, x_parS, x_par0, x_par1, x_appS, x_setS, x_callM, x_cmpEq, x_cmpNe, x_cmpLt, x_cmpLe, x_cmpGt, x_cmpGe, x_cmpIs, x_cmpIn, x_eqI, x_neI, x_ltI, x_leI, x_gtI, x_geI, x_isI, x_add, x_sub, x_mul, x_mod, x_div, x_xor, x_and, x_shr, x_neg, x_abs, x_int, x_isi, x_truB, x_mutI, x_mutB, x_mutL, x_mutT, x_indI, x_indB, x_len, x_lenT, x_lenS, x_andV, x_orV, R.bind_ok, R.bind_exc, R.bind_bad, List.getElem?_cons_zero, List.getElem?_cons_succ, List.set_cons_zero, List.set_cons_succ, Option.map_some, if_true, if_false, decide_eq_true_eq, Bool.not_eq_true, decide_true, decide_false, Bool.false_eq_true, Bool.not_true, Bool.not_false, and_true, true_and, and_false, false_and, List.map_cons, List.map_nil, List.replicate, List.cons_append, List.nil_append, List.length_cons, List.length_nil, List.append_nil, reduceCtorEq, Nat.reduceSub, Nat.reduceAdd, hasOwn, List.any_cons, List.any_nil, Bool.or_false, Bool.or_true, Bool.true_or, Bool.false_or, List.isEmpty_nil, ite_self, eq_self, hw]
end K02
namespace K02
open PySem PyProof.Rows L2 Dv
theorem cs_app (a b : List Nat) : cs (a ++ b) = cs a ++ cs b := List.map_append
theorem range_getD : ∀ (l : List Nat), (List.range l.length).map (fun i => l.getD i 0) = l := fun l => by
  apply List.ext_getElem?
  intro i
  by_cases h : i < l.length
  · rw [List.getElem?_map, List.getElem?_range h, List.getElem?_eq_getElem h]
    show some (l.getD i 0) = _
    rw [List.getD_eq_getElem?_getD, List.getElem?_eq_getElem h]
    rfl
  · rw [List.getElem?_eq_none (by rw [List.length_map, List.length_range]; omega), List.getElem?_eq_none (by omega)]
/-- the middle of the bent bits, as the law makes it -/
theorem mid_ok {bs : List Nat} {t n c : Nat} (hl : bs.length ≤ 1000) (h : t + n ≤ bs.length) (hb : ∀ b ∈ bs, b < 2) (hn : n ≤ 16) (s0 s1 s2 s3 s4 s5 s6 s7 s9 s13 s14 s15 : Sl) :
    opM (f1 (joinD (.str ""))) [.ex (compM (opI rng1 [.va 10]) [16] (.nm 16) yesM bE)] [s0, s1, s2, s3, s4, s5, s6, s7, .val (bC bs), s9, .val (.int (n : Int)), .val (bC (bitsN c n)), .val (.int (t : Int)), s13, s14, s15, .no] =
      .ok (bC (xors ((bs.drop t).take n) (bitsN c n))) [s0, s1, s2, s3, s4, s5, s6, s7, .val (bC bs), s9, .val (.int (n : Int)), .val (bC (bitsN c n)), .val (.int (t : Int)), s13, s14, s15, .no] := by
  have lm : ((bs.drop t).take n).length = n := by rw [List.length_take, List.length_drop]; omega
  have lx : (xors ((bs.drop t).take n) (bitsN c n)).length = n := by rw [xors_len _ _ (by rw [lm, bitsN_len]), lm]
  have hm : opI rng1 [.va 10] [s0, s1, s2, s3, s4, s5, s6, s7, .val (bC bs), s9, .val (.int (n : Int)), .val (bC (bitsN c n)), .val (.int (t : Int)), s13, s14, s15, .no] = .ok (rangeL 0 n 1) [s0, s1, s2, s3, s4, s5, s6, s7, .val (bC bs), s9, .val (.int (n : Int)), .val (bC (bitsN c n)), .val (.int (t : Int)), s13, s14, s15, .no] :=
    opI_ok (ds := [.int (n : Int)]) rfl (rng_nat (by omega))
  have hc := compM_ok (v := 16) (elt := bE) (fun d => match d with
    | .int o => .str (ofC [(xors ((bs.drop t).take n) (bitsN c n)).getD o.toNat 0 + 48])
    | _ => .non) hm rfl (by rw [rangeL, List.length_map, List.length_range]; omega) (by show 16 < 17; decide) (fun d hd2 => by
      obtain ⟨o, ho, e⟩ := List.mem_map.mp hd2
      have ho' := List.mem_range.mp ho
      subst e
      rw [show (0 : Int) + (o : Int) * 1 = (o : Int) by omega]
      have g1 : bs[t + o]? = some (bs[t + o]'(by omega)) := List.getElem?_eq_getElem (by omega)
      have gm : ((bs.drop t).take n)[o]? = some (bs[t + o]'(by omega)) := by
        rw [List.getElem?_take, if_pos ho', List.getElem?_drop, g1]
      have g2 := bitsN_get c n o ho'
      have gx := xors_get _ _ o _ _ gm g2
      have b1 := hb _ (List.mem_of_getElem? g1)
      have b2 := bitsN_lt c n _ (List.mem_of_getElem? g2)
      generalize bs[t + o]'(by omega) = u at *
      generalize c / 2 ^ (n - 1 - o) % 2 = v at *
      have i1 : ixD (bC bs) (.int ((t : Int) + (o : Int))) = some (.str (ofC [u + 48])) := by
        rw [show (t : Int) + (o : Int) = ((t + o : Nat) : Int) by omega]
        exact ixC (by rw [List.length_map]; omega) (by rw [List.getElem?_map, g1]; rfl)
      have i2 : ixD (bC (bitsN c n)) (.int (o : Int)) = some (.str (ofC [v + 48])) := ixC (by rw [List.length_map, bitsN_len]; omega) (by rw [List.getElem?_map, g2]; rfl)
      have hb3 := bE_ok neD rfl (bC bs) (bC (bitsN c n)) _ _ (t : Int) (o : Int) _ i1 i2 ofC_ne s0 s1 s2 s3 s4 s5 s6 s7 s9 (.val (.int (n : Int))) s13 s14 s15
      have e2 : (D.str (if (!decide (u + 48 = v + 48)) = true then "1" else "0")) = .str (ofC [(xors ((bs.drop t).take n) (bitsN c n)).getD ((o : Int)).toNat 0 + 48]) := by
        rw [Int.toNat_natCast, List.getD_eq_getElem?_getD, gx]
        have q1 : u = 0 ∨ u = 1 := by omega
        have q2 : v = 0 ∨ v = 1 := by omega
        rcases q1 with rfl | rfl <;> rcases q2 with rfl | rfl
        · exact zero_C
        · exact one_C
        · exact one_C
        · exact zero_C
      rw [e2] at hb3
      exact hb3)
  have e : ((rangeL 0 n 1).map fun d => match d with
    | .int o => D.str (ofC [(xors ((bs.drop t).take n) (bitsN c n)).getD o.toNat 0 + 48])
    | _ => .non) = ((xors ((bs.drop t).take n) (bitsN c n)).map fun b => [b + 48]).map fun l => D.str (ofC l) := by
    conv => rhs; rw [← range_getD (xors ((bs.drop t).take n) (bitsN c n)), lx]
    rw [rangeL, List.map_map, List.map_map, List.map_map]
    apply List.map_congr_left
    intro o _
    show D.str (ofC [(xors ((bs.drop t).take n) (bitsN c n)).getD ((0 : Int) + (o : Int) * 1).toNat 0 + 48]) = _
    rw [show ((0 : Int) + (o : Int) * 1).toNat = o by omega]
    rfl
  rw [e] at hc
  have hj := joinC (ls := (xors ((bs.drop t).take n) (bitsN c n)).map fun b => [b + 48]) (by rw [flat_one, List.length_map, lx]; omega)
  rw [flat_one] at hj
  exact opM_ok (ev_one hc) hj
def tT : S := seqS tC (seqS tD (seqS (tE f_law_whole_bytes) (seqS (tF f_law_is f_great_sum f_law_sum) (tG f_law_is f_small_sum f_law_sum))))
def tBody : S := seqS tA (seqS (tB f_law_fixed shlD) (ifS (boolM (opM (f2 (cmpD .GtE)) [.ex (opM (f1 lenD) [.va 8]), .va 10])) tT nxS))
theorem ifge (d : D) (n w : Int) (hn : lenD d = some (.int n)) (t : S) (s0 s1 s2 s3 s4 s5 s6 s7 s9 s11 s12 s13 s14 s15 s16 : Sl) : ifS (boolM (opM (f2 (cmpD .GtE)) [.ex (opM (f1 lenD) [.va 8]), .va 10])) t nxS [s0, s1, s2, s3, s4, s5, s6, s7, .val d, s9, .val (.int w), s11, s12, s13, s14, s15, s16] =
    if w ≤ n then t [s0, s1, s2, s3, s4, s5, s6, s7, .val d, s9, .val (.int w), s11, s12, s13, s14, s15, s16] else .ok .nx [s0, s1, s2, s3, s4, s5, s6, s7, .val d, s9, .val (.int w), s11, s12, s13, s14, s15, s16] := by
  by_cases h : w ≤ n <;> simp only [x_seqS, x_nxS, x_bkS, x_ctS, x_retS, x_retNS, x_retV, x_ifS, x_asgS, x_slotOf, x_slotOf', x_opM, x_opI, x_ev0, x_ev1, x_ev2, x_sl1, x_sl2, x_retM, x_varM, x_f1, x_f2, x_boolM, x_truM, x_notM, x_andM, x_orM, x_iteM, x_tvM, x_lstM, x_tupM, x_forS, x_whileS, x_parS, x_par0, x_par1, x_appS, x_setS, x_callM, x_cmpEq, x_cmpNe, x_cmpLt, x_cmpLe, x_cmpGt, x_cmpGe, x_cmpIs, x_cmpIn, x_eqI, x_neI, x_ltI, x_leI, x_gtI, x_geI, x_isI, x_add, x_sub, x_mul, x_mod, x_div, x_xor, x_and, x_shr, x_neg, x_abs, x_int, x_isi, x_truB, x_mutI, x_mutB, x_mutL, x_mutT, x_indI, x_indB, x_len, x_lenT, x_lenS, x_andV, x_orV, R.bind_ok, R.bind_exc, R.bind_bad, List.getElem?_cons_zero, List.getElem?_cons_succ, List.set_cons_zero, List.set_cons_succ, Option.map_some, if_true, if_false, decide_eq_true_eq, Bool.not_eq_true, decide_true, decide_false, Bool.false_eq_true, Bool.not_true, Bool.not_false, and_true, true_and, and_false, false_and, List.map_cons, List.map_nil, List.replicate, List.cons_append, List.nil_append, List.length_cons, List.length_nil, List.append_nil, reduceCtorEq, Nat.reduceSub, Nat.reduceAdd, hasOwn, List.any_cons, List.any_nil, Bool.or_false, Bool.or_true, Bool.true_or, Bool.false_or, List.isEmpty_nil, ite_self, eq_self, hn, h]
theorem slH_eq (d : D) (i : Int) : slH [d, .int i] = slD3 d none (some i) := rfl
theorem slL_eq (d : D) (i : Int) : slL [d, .int i] = slD3 d (some i) none := rfl
theorem slH_C {l : List Nat} {t : Nat} (hl : l.length ≤ 16000000) (ht : t ≤ l.length) : slH [bC l, .int (t : Int)] = some (bC (l.take t)) := by
  rw [slH_eq, sliceC (by rw [List.length_map]; exact hl), cut_to _ (by rw [List.length_map]; exact ht), ← List.map_take]
theorem slL_C {l : List Nat} {t : Nat} (hl : l.length ≤ 16000000) (ht : t ≤ l.length) : slL [bC l, .int (t : Int)] = some (bC (l.drop t)) := by
  rw [slL_eq, sliceC (by rw [List.length_map]; exact hl), cut_from _ (by rw [List.length_map]; exact ht), ← List.map_drop]
abbrev nOwn (s : Sl) : Prop := s = .no ∨ ∃ d, s = .val d
theorem turn_ok {ds : List Int} (hl : ds.length = 70) (hd : ∀ d ∈ ds, 0 ≤ d ∧ d < 5040) {row : List Nat} (hr : row.length ≤ 40) {i : Nat} (hi : i < 6) (s0 s1 s6 s7 s10 s11 s12 s13 s14 : Sl) (h12 : nOwn s12) :
    ∃ t10 t11 t12 t13 t14, nOwn t12 ∧ tBody [s0, s1, .own (.lst (ds.map D.int)), .val (tI row), .val (.int (crc 8 7 0 (rb row) : Nat)), .val (.int (crc 16 32773 0 (rb row) : Nat)), s6, s7, .val (bC (rb row)), .val (.int (i : Int)), s10, s11, s12, s13, s14, .no, .no] =
      .ok .nx [s0, s1, .own (.lst (ds.map D.int)), .val (tI row), .val (.int (crc 8 7 0 (rb row) : Nat)), .val (.int (crc 16 32773 0 (rb row) : Nat)), s6, s7, .val (bC (rb row)), .val (.int (i : Int)), t10, t11, t12, t13, t14, .no, .no] := by
  obtain ⟨a, ha, a2⟩ := small hl hd (j := 43 + i) (by omega)
  obtain ⟨b, hb, b2⟩ := small hl hd (j := 50 + i) (by omega)
  obtain ⟨x, hx, x2⟩ := small hl hd (j := 57 + i) (by omega)
  have ia := ix_ints (i := 43 + (i : Int)) (by omega) (by rw [show (43 + (i : Int)).toNat = 43 + i by omega]; exact ha)
  have ib := ix_ints (i := 50 + (i : Int)) (by omega) (by rw [show (50 + (i : Int)).toNat = 50 + i by omega]; exact hb)
  have ix := ix_ints (i := 57 + (i : Int)) (by omega) (by rw [show (57 + (i : Int)).toNat = 57 + i by omega]; exact hx)
  obtain ⟨w, hw, hwx⟩ : ∃ w : Nat, (w = 8 ∨ w = 16) ∧ ixD (.tup [.int 8, .int 16]) (.int ((i : Int) % 2)) = some (.int (w : Int)) := by
    rcases Nat.mod_two_eq_zero_or_one i with e | e
    · exact ⟨8, .inl rfl, by rw [show (i : Int) % 2 = 0 by omega]; rfl⟩
    · exact ⟨16, .inr rfl, by rw [show (i : Int) % 2 = 1 by omega]; rfl⟩
  obtain ⟨c, hc, hc0, hci⟩ : ∃ c : Nat, c < 2 ^ w ∧ c ≠ 0 ∧ 1 + (a : Int) * (b : Int) % (((2 ^ w : Nat) : Int) - 1) = (c : Int) := by
    have e : (a : Int) * (b : Int) = ((a * b : Nat) : Int) := by rw [Int.natCast_mul]
    rw [e]
    generalize a * b = q
    rcases hw with rfl | rfl
    · refine ⟨1 + q % 255, by show _ < 256; omega, by omega, ?_⟩
      show 1 + (q : Int) % 255 = _
      omega
    · refine ⟨1 + q % 65535, by show _ < 65536; omega, by omega, ?_⟩
      show 1 + (q : Int) % 65535 = _
      omega
  have hL : lenD (bC (rb row)) = some (.int ((8 * row.length : Nat) : Int)) := by
    rw [lenC (by rw [List.length_map, rb_len]; omega), List.length_map, rb_len]
  have hy : (0 : Int) < ((2 ^ w : Nat) : Int) - 1 := by rcases hw with rfl | rfl <;> decide
  have hz : f_law_fixed [.int (1 + (a : Int) * (b : Int) % (((2 ^ w : Nat) : Int) - 1)), .int (w : Int)] = .ok (bC (bitsN c w)) := by
    rw [hci]
    exact lfixed_ok c w hw
  have hmul : MulOk (a : Int) (b : Int) := mulOk_l (by omega)
  have w16 : w ≤ 16 := by omega
  have st1 := tA_ok (i : Int) (w : Int) hwx s0 s1 (.own (.lst (ds.map D.int))) (.val (tI row)) (.val (.int (crc 8 7 0 (rb row) : Nat))) (.val (.int (crc 16 32773 0 (rb row) : Nat))) s6 s7 (.val (bC (rb row))) s10 s11 s12 s13 s14 .no .no
  have st2 := tB_ok f_law_fixed shlD (ds.map D.int) (i : Int) (a : Int) (b : Int) (w : Int) ((2 ^ w : Nat) : Int) (bC (bitsN c w)) ia ib hmul (sh3 w16) hy hz rfl s0 s1 (.val (tI row)) (.val (.int (crc 8 7 0 (rb row) : Nat))) (.val (.int (crc 16 32773 0 (rb row) : Nat))) s6 s7 (.val (bC (rb row))) s11 s12 s13 s14 .no .no
  by_cases hwl : w ≤ 8 * row.length
  · -- bent
    let t := x % (8 * row.length - w + 1)
    have ht : t + w ≤ 8 * row.length := by
      have : t < 8 * row.length - w + 1 := Nat.mod_lt _ (by omega)
      omega
    have htl : t + w ≤ (rb row).length := by rw [rb_len]; exact ht
    have et : (x : Int) % (((8 * row.length : Nat) : Int) - (w : Int) + 1) = (t : Int) := by
      rw [show ((8 * row.length : Nat) : Int) - (w : Int) + 1 = ((8 * row.length - w + 1 : Nat) : Int) by omega]
      exact (Int.natCast_emod _ _).symm
    have st3 := tC_ok (ds.map D.int) (i : Int) (x : Int) (w : Int) ((8 * row.length : Nat) : Int) (bC (rb row)) ix hL (by omega) s0 s1 (.val (tI row)) (.val (.int (crc 8 7 0 (rb row) : Nat))) (.val (.int (crc 16 32773 0 (rb row) : Nat))) s6 s7 (.val (bC (bitsN c w))) s12 s13 s14 .no .no
    rw [et] at st3
    have rl : (rb row).length ≤ 1000 := by rw [rb_len]; omega
    have c1000 : (cs (rb row)).length ≤ 16000000 := by rw [List.length_map]; omega
    have k1 : slH [bC (rb row), .int (t : Int)] = some (bC ((rb row).take t)) := slH_C (by omega) (by omega)
    have k2 := mid_ok (c := c) rl htl (rb_lt row) w16 s0 s1 (.own (.lst (ds.map D.int))) (.val (tI row)) (.val (.int (crc 8 7 0 (rb row) : Nat))) (.val (.int (crc 16 32773 0 (rb row) : Nat))) s6 s7 (.val (.int (i : Int))) s13 s14 .no
    have k3 : slL [bC (rb row), .int ((t : Int) + (w : Int))] = some (bC ((rb row).drop (t + w))) := by
      rw [show (t : Int) + (w : Int) = ((t + w : Nat) : Int) by omega]
      exact slL_C (by omega) htl
    have lx : (xors (((rb row).drop t).take w) (bitsN c w)).length ≤ 1000 := by
      rw [xors_len _ _ (by rw [List.length_take, List.length_drop, bitsN_len]; omega), List.length_take]
      omega
    have k4 : addD (bC ((rb row).take t)) (bC (xors (((rb row).drop t).take w) (bitsN c w))) = some (bC ((rb row).take t ++ xors (((rb row).drop t).take w) (bitsN c w))) := by
      rw [addC (by rw [List.length_map, List.length_map, List.length_take]; omega), ← cs_app]
    have k5 : addD (bC ((rb row).take t ++ xors (((rb row).drop t).take w) (bitsN c w))) (bC ((rb row).drop (t + w))) = some (bC (bend (rb row) t w c)) := by
      rw [addC (by rw [List.length_map, List.length_map, List.length_append, List.length_take, List.length_drop]; omega), ← cs_app]
      rfl
    have st4 := tD_gen slH slL _ addD (bC (rb row)) _ _ _ _ _ (t : Int) (w : Int) [s0, s1, .own (.lst (ds.map D.int)), .val (tI row), .val (.int (crc 8 7 0 (rb row) : Nat)), .val (.int (crc 16 32773 0 (rb row) : Nat)), s6, s7, .val (bC (rb row)), .val (.int (i : Int)), .val (.int (w : Int)), .val (bC (bitsN c w)), .val (.int (t : Int)), s13, s14, .no, .no] rfl rfl rfl k1 k2 k3 k4 k5 rfl
    have bl : (bend (rb row) t w c).length = 8 * row.length := by rw [bend_len htl, rb_len]
    have bb := bend_lt (c := c) htl (rb_lt row)
    have hwh := whole_ok (m := row.length) bl (by omega) bb
    have st5 := tE_ok f_law_whole_bytes (bC (bend (rb row) t w c)) _ hwh rfl s0 s1 (.own (.lst (ds.map D.int))) (.val (tI row)) (.val (.int (crc 8 7 0 (rb row) : Nat))) (.val (.int (crc 16 32773 0 (rb row) : Nat))) s6 s7 (.val (bC (rb row))) (.val (.int (i : Int))) (.val (.int (w : Int))) (.val (bC (bitsN c w))) (.val (.int (t : Int))) s14 .no .no
    have rbe := rb_byAt row.length (bend (rb row) t w c) bl bb
    have ol : ((List.range row.length).map (byAt (bend (rb row) t w c))).length ≤ 1000 := by rw [List.length_map, List.length_range]; omega
    have g1 := great_ok ol
    have g2 := lsum_ok (row := (List.range row.length).map (byAt (bend (rb row) t w c))) W16 (by decide)
    have g3 := small_ok ol
    have g4 := lsum_ok (row := (List.range row.length).map (byAt (bend (rb row) t w c))) W8 (by decide)
    rw [rbe] at g1 g2 g3 g4
    have n16 := bend_ne W16 (c := c) htl (rb_lt row) w16 hc hc0
    have st6 := tF_ok f_law_is f_great_sum f_law_sum _ _ (crc 16 32773 0 (rb row) : Nat) g1 g2 is_self (by omega) s0 s1 (.own (.lst (ds.map D.int))) (.val (tI row)) (.val (.int (crc 8 7 0 (rb row) : Nat))) s6 s7 (.val (bC (rb row))) (.val (.int (i : Int))) (.val (.int (w : Int))) (.val (bC (bitsN c w))) (.val (.int (t : Int))) (.val (bC (bend (rb row) t w c))) .no .no
    refine ⟨.val (.int (w : Int)), .val (bC (bitsN c w)), .val (.int (t : Int)), .val (bC (bend (rb row) t w c)), .val (tI ((List.range row.length).map (byAt (bend (rb row) t w c)))), .inr ⟨_, rfl⟩, ?_⟩
    unfold tBody
    refine (seq_nx st1).trans ((seq_nx st2).trans ?_)
    rw [ifge _ _ _ hL, if_pos (by omega)]
    unfold tT
    refine (seq_nx st3).trans ((seq_nx st4).trans ((seq_nx st5).trans ((seq_nx st6).trans ?_)))
    rcases hw with rfl | rfl
    · have n8 := bend_ne W8 (c := c) htl (rb_lt row) (by decide) hc hc0
      exact tG_8 f_law_is f_small_sum f_law_sum _ _ (crc 8 7 0 (rb row) : Nat) g3 g4 is_self (by omega) _ _ _ _ _ _ _ _ _ _ _ _ _ _
    · exact tG_16 f_law_is f_small_sum f_law_sum _ _ _ _ _ _ _ _ _ _ _ _ _ _ _ _ _ (by decide)
  · refine ⟨.val (.int (w : Int)), .val (bC (bitsN c w)), s12, s13, s14, h12, ?_⟩
    unfold tBody
    refine (seq_nx st1).trans ((seq_nx st2).trans ?_)
    rw [ifge _ _ _ hL, if_neg (by omega)]
end K02
namespace K02
open PySem PyProof.Rows L2 Dv
theorem bitsN_add (v n : Nat) : ∀ m, bitsN v (m + n) = bitsN (v / 2 ^ n) m ++ bitsN v n
  | 0 => by rw [Nat.zero_add]; rfl
  | m + 1 => by
    rw [show m + 1 + n = (m + n) + 1 by omega]
    show v / 2 ^ (m + n) % 2 :: bitsN v (m + n) = (v / 2 ^ n / 2 ^ m % 2 :: bitsN (v / 2 ^ n) m) ++ bitsN v n
    rw [bitsN_add v n m, Nat.div_div_eq_div_mul, ← Nat.pow_add, Nat.add_comm n m]
    rfl
theorem rb_app (a b : List Nat) : rb (a ++ b) = rb a ++ rb b := List.flatMap_append
theorem rb_one (x : Nat) : rb [x] = bitsN x 8 := by
  show bitsN x 8 ++ [] = _
  rw [List.append_nil]
theorem small_zero (row : List Nat) : crc 8 7 0 (rb (row ++ [crc 8 7 0 (rb row)])) = 0 := by
  rw [rb_app, crc_app, rb_one]
  have h := crc_own W8 8 (crc 8 7 0 (rb row)) (Nat.le_refl _) (crc_lt W8 _ 0 (by decide))
  rw [Nat.sub_self, Nat.pow_zero, Nat.mul_one] at h
  exact h
theorem great_zero (row : List Nat) : crc 16 32773 0 (rb (row ++ [crc 16 32773 0 (rb row) / 256, crc 16 32773 0 (rb row) % 256])) = 0 := by
  generalize hg : crc 16 32773 0 (rb row) = g
  have hlt : g < 2 ^ 16 := by rw [← hg]; exact crc_lt W16 _ 0 (by decide)
  have e : rb [g / 256, g % 256] = bitsN g 16 := by
    show bitsN (g / 256) 8 ++ (bitsN (g % 256) 8 ++ []) = _
    rw [List.append_nil, show (16 : Nat) = 8 + 8 from rfl, bitsN_add g 8 8]
    congr 1
    have h := bitsN_mul (g / 256) (g % 256) 8 8 (Nat.le_refl _)
    rw [← h]
    congr 1
    show _ = g
    have := Nat.div_add_mod g 256
    show g / 256 * 256 + g % 256 = g
    omega
  rw [rb_app, crc_app, hg, e]
  have h := crc_own W16 16 g (Nat.le_refl _) hlt
  rw [Nat.sub_self, Nat.pow_zero, Nat.mul_one] at h
  exact h
theorem joined_eq (row : List Nat) (c : Nat) : crc 16 32773 (crc 16 32773 0 (rb (row.take c))) (zs (8 * (row.length - c))) ^^^ crc 16 32773 0 (rb (row.drop c)) = crc 16 32773 0 (rb row) := by
  have h := crc_split W16 (r := crc 16 32773 0 (rb (row.take c))) (crc_lt W16 _ 0 (by decide)) (rb_lt (row.drop c))
  rw [rb_len, List.length_drop] at h
  rw [← h, ← crc_app, ← rb_app, List.take_append_drop]
theorem slT (row : List Nat) (c : Nat) (h : c ≤ row.length) : slH [tI row, .int (c : Int)] = some (tI (row.take c)) := by
  rw [slH_eq]
  show some (D.tup (cutL _ none (some (c : Int)))) = _
  rw [cut_to _ (by rw [List.length_map]; exact h), ← List.map_take]
theorem slT2 (row : List Nat) (c : Nat) (h : c ≤ row.length) : slL [tI row, .int (c : Int)] = some (tI (row.drop c)) := by
  rw [slL_eq]
  show some (D.tup (cutL _ (some (c : Int)) none)) = _
  rw [cut_from _ (by rw [List.length_map]; exact h), ← List.map_drop]
theorem lenT (row : List Nat) : lenD (tI row) = some (.int (row.length : Nat)) := by
  show some (D.int ((row.map fun x => D.int (x : Nat)).length : Nat)) = _
  rw [List.length_map]
def hBits : S := asgS 8 (opM (f1 (joinD (.str ""))) [.ex (compM (seqM (varM 3)) [15] (.nm 15) yesM (callM f_law_fixed [.va 15, .ex (retM (.int 8))]))]) true
def kB : S := seqS (h1S f_law_draws f_law_cell) (seqS h2S (seqS (h3S f_law_sum 4 8 7) (seqS (h3S f_law_sum 5 16 32773) (seqS (h4S f_law_is f_small_sum f_great_sum f_sum_bytes shrD andD) (seqS (h5S f_law_is f_small_sum f_great_sum f_law_summed addD) (seqS h6S (seqS (h7S f_law_sum) (seqS (h8S f_law_is f_joined_great_sum f_law_sum) (seqS hBits (forS (opI rng1 [.ex (retM (.int 6))]) (.nm 9) tBody))))))))))
theorem law_eq : f_law = runB 17 (seqS (forS (opI rng1 [.ex (retM (.int 3))]) (.nm 1) kB) (retS (retM (.bl true)) false)) := e_law
theorem r16 : rng1 [.int 6] = some (rangeL 0 6 1) := by rfl
theorem r13 : rng1 [.int 3] = some (rangeL 0 3 1) := by rfl
theorem kB_ok (ns : List Int) (k : Int) (hk : 0 ≤ k) (s2 s3 s4 s5 s6 s7 s8 s9 s10 s11 s12 s13 s14 : Sl) (h12 : nOwn s12) : ∃ t2 t3 t4 t5 t6 t7 t8 t9 t10 t11 t12 t13 t14, nOwn t12 ∧
    kB [.val (.scr ns), .val (.int k), s2, s3, s4, s5, s6, s7, s8, s9, s10, s11, s12, s13, s14, .no, .no] = .ok .nx [.val (.scr ns), .val (.int k), t2, t3, t4, t5, t6, t7, t8, t9, t10, t11, t12, t13, t14, .no, .no] := by
  obtain ⟨c, hc⟩ := cell_ok (u := 5) (v := 3) (by decide) ns k hk
  have hc' : f_law_cell [.scr ns, .int k] = .ok (.int c) := by rw [e_law_cell]; exact hc
  obtain ⟨ds, hl, hd, hds⟩ := draws_ok c 70 (by decide)
  have hds' : f_law_draws [.int c, .int 70] = .ok (.lst (ds.map D.int)) := by rw [e_law_draws]; exact hds
  have st1 := h1S_ok f_law_draws f_law_cell (.scr ns) (.int k) c (ds.map D.int) hc' hds' s2 s3 s4 s5 s6 s7 s8 s9 s10 s11 s12 s13 s14 .no .no
  obtain ⟨n, hn, st2⟩ := h2S_ok hl hd (.val (.scr ns)) (.val (.int k)) s3 s4 s5 s6 s7 s8 s9 s10 s11 s13 s14 .no .no s12 (by rcases h12 with rfl | ⟨d, rfl⟩ <;> rfl)
  have hr : (rowOf ds n).length ≤ 40 := by rw [rowOf, List.length_map, List.length_range]; exact hn
  generalize rowOf ds n = row at st2 hr
  have l1 : row.length ≤ 1000 := by omega
  have q8 := lsum_ok (row := row) W8 (by decide)
  have q16 := lsum_ok (row := row) W16 (by decide)
  have st3 := h3S_4 f_law_sum 8 7 (tI row) _ q8 (.val (.scr ns)) (.val (.int k)) (.own (.lst (ds.map D.int))) s4 s5 s6 s7 s8 s9 s10 s11 s12 s13 s14 .no .no
  have st4 := h3S_5 f_law_sum 16 32773 (tI row) _ q16 (.val (.scr ns)) (.val (.int k)) (.own (.lst (ds.map D.int))) (.val (.int (crc 8 7 0 (rb row) : Nat))) s5 s6 s7 s8 s9 s10 s11 s12 s13 s14 .no .no
  have st5 := h4S_ok f_law_is f_small_sum f_great_sum f_sum_bytes shrD andD (tI row) (tI row) _ _ _ _ (small_ok l1) (great_ok l1) (sum_bytes_ok l1) (shr8 _) (and255 _) is_self (is_pair _ _) rfl (.val (.scr ns)) (.val (.int k)) (.own (.lst (ds.map D.int))) s6 s7 s8 s9 s10 s11 s12 s13 s14 .no .no
  have a1 : addD (tI row) (.tup [.int (crc 8 7 0 (rb row) : Nat)]) = some (tI (row ++ [crc 8 7 0 (rb row)])) := add_tI (a := row) (b := [_]) (by show _ + 1 ≤ _; omega)
  have z1 := small_ok (row := row ++ [crc 8 7 0 (rb row)]) (by rw [List.length_append]; show _ + 1 ≤ _; omega)
  rw [small_zero] at z1
  have z2 := great_ok (row := row ++ [crc 16 32773 0 (rb row) / 256, crc 16 32773 0 (rb row) % 256]) (by rw [List.length_append]; show _ + 2 ≤ _; omega)
  rw [great_zero] at z2
  have st6 := h5S_ok f_law_is f_small_sum f_great_sum f_law_summed addD (tI row) _ _ _ a1 z1 (summed_ok l1) z2 is_self (.val (.scr ns)) (.val (.int k)) (.own (.lst (ds.map D.int))) (.val (.int (crc 16 32773 0 (rb row) : Nat))) s6 s7 s8 s9 s10 s11 s12 s13 s14 .no .no
  obtain ⟨x, hx, _⟩ := small hl hd (j := 42) (by decide)
  have i42 := ix_ints (i := 42) (by decide) hx
  have st7 := h6S_ok (ds.map D.int) (x : Int) (tI row) (row.length : Nat) i42 (lenT row) (by omega) (.val (.scr ns)) (.val (.int k)) (.val (.int (crc 8 7 0 (rb row) : Nat))) (.val (.int (crc 16 32773 0 (rb row) : Nat))) s6 s7 s8 s9 s10 s11 s12 s13 s14 .no .no
  obtain ⟨u, hu, eu⟩ : ∃ u : Nat, u ≤ row.length ∧ (x : Int) % ((row.length : Int) + 1) = (u : Int) := by
    refine ⟨x % (row.length + 1), ?_, ?_⟩
    · have := Nat.mod_lt x (show 0 < row.length + 1 by omega)
      omega
    · rw [show (row.length : Int) + 1 = ((row.length + 1 : Nat) : Int) by omega]
      exact (Int.natCast_emod _ _).symm
  rw [eu] at st7
  have st8 := h7S_ok f_law_sum (tI row) _ (u : Int) _ (slT row u hu) (lsum_ok (row := row.take u) W16 (by decide)) (.val (.scr ns)) (.val (.int k)) (.own (.lst (ds.map D.int))) (.val (.int (crc 8 7 0 (rb row) : Nat))) (.val (.int (crc 16 32773 0 (rb row) : Nat))) s7 s8 s9 s10 s11 s12 s13 s14 .no .no
  have hj := joined_ok (f := crc 16 32773 0 (rb (row.take u))) (s := crc 16 32773 0 (rb (row.drop u))) (n := row.length - u) (crc_lt W16 _ 0 (by decide)) (by omega)
  rw [joined_eq, show ((row.length - u : Nat) : Int) = ((row.length : Nat) : Int) - (u : Int) by omega] at hj
  have st9 := h8S_ok f_law_is f_joined_great_sum f_law_sum (tI row) _ (u : Int) _ _ _ _ (slT2 row u hu) (lsum_ok (row := row.drop u) W16 (by decide)) (lenT row) hj is_self (.val (.scr ns)) (.val (.int k)) (.own (.lst (ds.map D.int))) (.val (.int (crc 8 7 0 (rb row) : Nat))) s8 s9 s10 s11 s12 s13 s14 .no .no
  have hb := bits_join (f := f_law_fixed) (fun v => lfixed_ok v 8 (.inl rfl)) (i := 3) (v := 15) (row := row) (ρ := [.val (.scr ns), .val (.int k), .own (.lst (ds.map D.int)), .val (tI row), .val (.int (crc 8 7 0 (rb row) : Nat)), .val (.int (crc 16 32773 0 (rb row) : Nat)), .val (.int (u : Int)), .val (.int (crc 16 32773 0 (rb (row.take u)) : Nat)), s8, s9, s10, s11, s12, s13, s14, .no, .no]) rfl (by decide) (by show 15 < 17; decide) rfl l1
  have st10 := asg_of (i := 8) hb rfl true
  obtain ⟨ρ', h1, t9, t10, t11, t12, t13, t14, h2, h3⟩ := for_range (v := 9) (lo := 0) (c := 1) (n := 6) (s := tBody) (ρ := [.val (.scr ns), .val (.int k), .own (.lst (ds.map D.int)), .val (tI row), .val (.int (crc 8 7 0 (rb row) : Nat)), .val (.int (crc 16 32773 0 (rb row) : Nat)), .val (.int (u : Int)), .val (.int (crc 16 32773 0 (rb (row.take u)) : Nat)), .val (bC (rb row)), s9, s10, s11, s12, s13, s14, .no, .no])
    (fun i ρ => ∃ t9 t10 t11 t12 t13 t14, nOwn t12 ∧ ρ = [.val (.scr ns), .val (.int k), .own (.lst (ds.map D.int)), .val (tI row), .val (.int (crc 8 7 0 (rb row) : Nat)), .val (.int (crc 16 32773 0 (rb row) : Nat)), .val (.int (u : Int)), .val (.int (crc 16 32773 0 (rb (row.take u)) : Nat)), .val (bC (rb row)), t9, t10, t11, t12, t13, t14, .no, .no]) ⟨_, _, _, _, _, _, h12, rfl⟩ (by
      rintro i _ hi ⟨t9, t10, t11, t12, t13, t14, hn, rfl⟩
      rw [show (0 : Int) + (i : Int) * 1 = (i : Int) by omega]
      obtain ⟨u10, u11, u12, u13, u14, hu12, ht⟩ := turn_ok hl hd hr hi (.val (.scr ns)) (.val (.int k)) (.val (.int (u : Int))) (.val (.int (crc 16 32773 0 (rb (row.take u)) : Nat))) t10 t11 t12 t13 t14 hn
      exact ⟨_, .inl ht, .val (.int (i : Int)), u10, u11, u12, u13, u14, hu12, rfl⟩)
  refine ⟨.own (.lst (ds.map D.int)), .val (tI row), .val (.int (crc 8 7 0 (rb row) : Nat)), .val (.int (crc 16 32773 0 (rb row) : Nat)), .val (.int (u : Int)), .val (.int (crc 16 32773 0 (rb (row.take u)) : Nat)), .val (bC (rb row)), t9, t10, t11, t12, t13, t14, h2, ?_⟩
  unfold kB
  refine (seq_nx st1).trans ((seq_nx st2).trans ((seq_nx st3).trans ((seq_nx st4).trans ((seq_nx st5).trans ((seq_nx st6).trans ((seq_nx st7).trans ((seq_nx st8).trans ((seq_nx st9).trans ((seq_nx st10).trans ?_)))))))))
  rw [← h3]
  exact (forI rfl r16).trans h1
theorem plain (ns : List Int) (h : ns.length ≤ 63) (hb : ∀ z ∈ ns, Builtin.Int.intBits z ≤ 1048576) : semOf T19 q_law [.scr ns] = .ok (.bl true) := by
  show f_law [.scr ns] = _
  rw [law_eq]
  obtain ⟨ρ', h1, h2⟩ := for_range (v := 1) (lo := 0) (c := 1) (n := 3) (s := kB) (ρ := [.val (.scr ns), .no, .no, .no, .no, .no, .no, .no, .no, .no, .no, .no, .no, .no, .no, .no, .no])
    (fun i ρ => ∃ s1 s2 s3 s4 s5 s6 s7 s8 s9 s10 s11 s12 s13 s14, nOwn s12 ∧ ρ = [.val (.scr ns), s1, s2, s3, s4, s5, s6, s7, s8, s9, s10, s11, s12, s13, s14, .no, .no]) ⟨_, _, _, _, _, _, _, _, _, _, _, _, _, _, .inl rfl, rfl⟩ (by
      rintro i _ hi ⟨s1, s2, s3, s4, s5, s6, s7, s8, s9, s10, s11, s12, s13, s14, hn, rfl⟩
      obtain ⟨t2, t3, t4, t5, t6, t7, t8, t9, t10, t11, t12, t13, t14, hn2, hk⟩ := kB_ok ns (0 + (i : Int) * 1) (by omega) s2 s3 s4 s5 s6 s7 s8 s9 s10 s11 s12 s13 s14 hn
      exact ⟨_, .inl hk, .val (.int (0 + (i : Int) * 1)), t2, t3, t4, t5, t6, t7, t8, t9, t10, t11, t12, t13, t14, hn2, rfl⟩)
  refine run_of (ρ := ρ') ?_
  refine (seq_nx ((forI rfl r13).trans h1)).trans ?_
  rfl
end K02
namespace K02
open PySem PySem.Spec PyProof.Rows L2 Dv
theorem plain_all (ns : List Int) (h : ns.length ≤ 63) (hb : ∀ z ∈ ns, Builtin.Int.intBits z ≤ 1048576) : semOf T19 q_law [.scr ns] = .ok (.bl true) := plain ns h hb
theorem sq_law_draws : FnScope q_law_draws.N (q_law_draws.N.take 2) (defScope q_law_draws.st) := ⟨rfl, rfl, rfl, by decide +kernel, rfl, by decide +kernel, by decide +kernel⟩
theorem sq_law_sum : FnScope q_law_sum.N (q_law_sum.N.take 3) (defScope q_law_sum.st) := ⟨rfl, rfl, rfl, by decide +kernel, rfl, by decide +kernel, by decide +kernel⟩
theorem sq_law_cell : FnScope q_law_cell.N (q_law_cell.N.take 2) (defScope q_law_cell.st) := ⟨rfl, rfl, rfl, by decide +kernel, rfl, by decide +kernel, by decide +kernel⟩
theorem sq_law_is_integer : FnScope q_law_is_integer.N (q_law_is_integer.N.take 1) (defScope q_law_is_integer.st) := ⟨rfl, rfl, rfl, by decide +kernel, rfl, by decide +kernel, by decide +kernel⟩
theorem sq_law_is : FnScope q_law_is.N (q_law_is.N.take 2) (defScope q_law_is.st) := ⟨rfl, rfl, rfl, by decide +kernel, rfl, by decide +kernel, by decide +kernel⟩
theorem sq_law_fixed : FnScope q_law_fixed.N (q_law_fixed.N.take 2) (defScope q_law_fixed.st) := ⟨rfl, rfl, rfl, by decide +kernel, rfl, by decide +kernel, by decide +kernel⟩
theorem sq_stepped : FnScope q_stepped.N (q_stepped.N.take 4) (defScope q_stepped.st) := ⟨rfl, rfl, rfl, by decide +kernel, rfl, by decide +kernel, by decide +kernel⟩
theorem sq_joined_great_sum : FnScope q_joined_great_sum.N (q_joined_great_sum.N.take 3) (defScope q_joined_great_sum.st) := ⟨rfl, rfl, rfl, by decide +kernel, rfl, by decide +kernel, by decide +kernel⟩
theorem sq_law_whole_bytes : FnScope q_law_whole_bytes.N (q_law_whole_bytes.N.take 1) (defScope q_law_whole_bytes.st) := ⟨rfl, rfl, rfl, by decide +kernel, rfl, by decide +kernel, by decide +kernel⟩
theorem sq_sum_of : FnScope q_sum_of.N (q_sum_of.N.take 3) (defScope q_sum_of.st) := ⟨rfl, rfl, rfl, by decide +kernel, rfl, by decide +kernel, by decide +kernel⟩
theorem sq_fixed : FnScope q_fixed.N (q_fixed.N.take 2) (defScope q_fixed.st) := ⟨rfl, rfl, rfl, by decide +kernel, rfl, by decide +kernel, by decide +kernel⟩
theorem sq_bits_of : FnScope q_bits_of.N (q_bits_of.N.take 1) (defScope q_bits_of.st) := ⟨rfl, rfl, rfl, by decide +kernel, rfl, by decide +kernel, by decide +kernel⟩
theorem sq_small_sum : FnScope q_small_sum.N (q_small_sum.N.take 1) (defScope q_small_sum.st) := ⟨rfl, rfl, rfl, by decide +kernel, rfl, by decide +kernel, by decide +kernel⟩
theorem sq_great_sum : FnScope q_great_sum.N (q_great_sum.N.take 1) (defScope q_great_sum.st) := ⟨rfl, rfl, rfl, by decide +kernel, rfl, by decide +kernel, by decide +kernel⟩
theorem sq_sum_bytes : FnScope q_sum_bytes.N (q_sum_bytes.N.take 1) (defScope q_sum_bytes.st) := ⟨rfl, rfl, rfl, by decide +kernel, rfl, by decide +kernel, by decide +kernel⟩
theorem sq_law_summed : FnScope q_law_summed.N (q_law_summed.N.take 1) (defScope q_law_summed.st) := ⟨rfl, rfl, rfl, by decide +kernel, rfl, by decide +kernel, by decide +kernel⟩
theorem sq_law : FnScope q_law.N (q_law.N.take 1) (defScope q_law.st) := ⟨rfl, rfl, rfl, by decide +kernel, rfl, by decide +kernel, by decide +kernel⟩
abbrev fn : List He.DefD := [q_law_draws.d, q_law_sum.d, q_law_cell.d, q_law_is_integer.d, q_law_is.d, q_law_fixed.d, q_stepped.d, q_joined_great_sum.d, q_law_whole_bytes.d, q_sum_of.d, q_fixed.d, q_bits_of.d, q_small_sum.d, q_great_sum.d, q_sum_bytes.d, q_law_summed.d, q_law.d]
abbrev fa : List He.Fa := [.glo "_law_draws", .glo "_law_sum", .glo "_law_cell", .glo "_law_is_integer", .glo "_law_is", .glo "_law_fixed", .glo "stepped", .glo "joined_great_sum", .glo "_law_whole_bytes", .glo "sum_of", .glo "fixed", .glo "bits_of", .glo "small_sum", .glo "great_sum", .glo "sum_bytes", .glo "_law_summed", .glo "law", .free "abs", .free "all", .free "bool", .free "int", .free "isinstance", .free "len", .free "range", .free "str", .free "tuple", .int "SMALL" (7), .int "GREAT" (32773)]
abbrev Rr : PySem.W.OpenRow := PySem.W.OpenLaw.row PySem.Challenge.rw_psaltery_k02_whole_sums_that_tell_change
abbrev hk : PySem.W.Hook := He.hookD 4 fa fn
def ob (s : PySem.W.SharedT) : He.AlD := He.obsDG 4 fa fn (HandSHeadRun.getT s)
theorem ob_eq (s : PySem.W.SharedT) : ob s = hk.obs s.abs := He.obsDG_eq (HandSHeadRun.getT_eq s)
abbrev loose0 : List Str := ["fixed", "bits_of", "SMALL", "GREAT", "stepped", "sum_of", "small_sum", "great_sum", "joined_great_sum", "sum_bytes", "_law_cell", "_law_draws", "_law_is_integer", "_law_is", "_law_fixed", "_law_whole_bytes", "_law_sum", "_law_summed"]
abbrev loose : List Str := loose0
theorem run (w : World) : HandSHeadRun.RunEq Rr (PySem.W.view Rr.prog [22]) hk ob 2000 loose w := by
  intro os
  kernel_rfl
theorem facts {P : Program} {w : World} {K : PySem.W.Frag} {h : Heap} {mg : Str → Option Value} {f : Addr} (X : K.In h) (G : h.Ns mainGlobals mg) (hfa : mg ("law" : Str) = some (.ref f)) (c : He.SaysD fa fn K) :
    ∃ fd : FuncData, (∀ (s : Shared) (v : Value), BindsTo s fd ⟨[v], []⟩ [("script", v)]) ∧ ∀ base : Heap, K.In base → base.Ns mainGlobals mg → FnOk P w K mg base (L2.CX P w) 20 f fd ["script"] (spF K noXR 1 (semOf T19 q_law)) := by
  obtain ⟨fd_q_law_draws, F_q_law_draws⟩ := c.def_ 0 (d := q_law_draws.d) rfl
  have D_q_law_draws : DfOk K mg q_law_draws := ⟨⟨_, fd_q_law_draws, He.glo_ok X G (c.fact 0 (f := .glo "_law_draws") rfl), F_q_law_draws, F_q_law_draws.bindsN fun _ _ _ _ _ _ us hl => match us, hl with | [_, _], _ => rfl⟩, sq_law_draws, rfl⟩
  obtain ⟨fd_q_law_sum, F_q_law_sum⟩ := c.def_ 1 (d := q_law_sum.d) rfl
  have D_q_law_sum : DfOk K mg q_law_sum := ⟨⟨_, fd_q_law_sum, He.glo_ok X G (c.fact 1 (f := .glo "_law_sum") rfl), F_q_law_sum, F_q_law_sum.bindsN fun _ _ _ _ _ _ us hl => match us, hl with | [_, _, _], _ => rfl⟩, sq_law_sum, rfl⟩
  obtain ⟨fd_q_law_cell, F_q_law_cell⟩ := c.def_ 2 (d := q_law_cell.d) rfl
  have D_q_law_cell : DfOk K mg q_law_cell := ⟨⟨_, fd_q_law_cell, He.glo_ok X G (c.fact 2 (f := .glo "_law_cell") rfl), F_q_law_cell, F_q_law_cell.bindsN fun _ _ _ _ _ _ us hl => match us, hl with | [_, _], _ => rfl⟩, sq_law_cell, rfl⟩
  obtain ⟨fd_q_law_is_integer, F_q_law_is_integer⟩ := c.def_ 3 (d := q_law_is_integer.d) rfl
  have D_q_law_is_integer : DfOk K mg q_law_is_integer := ⟨⟨_, fd_q_law_is_integer, He.glo_ok X G (c.fact 3 (f := .glo "_law_is_integer") rfl), F_q_law_is_integer, F_q_law_is_integer.bindsN fun _ _ _ _ _ _ us hl => match us, hl with | [_], _ => rfl⟩, sq_law_is_integer, rfl⟩
  obtain ⟨fd_q_law_is, F_q_law_is⟩ := c.def_ 4 (d := q_law_is.d) rfl
  have D_q_law_is : DfOk K mg q_law_is := ⟨⟨_, fd_q_law_is, He.glo_ok X G (c.fact 4 (f := .glo "_law_is") rfl), F_q_law_is, F_q_law_is.bindsN fun _ _ _ _ _ _ us hl => match us, hl with | [_, _], _ => rfl⟩, sq_law_is, rfl⟩
  obtain ⟨fd_q_law_fixed, F_q_law_fixed⟩ := c.def_ 5 (d := q_law_fixed.d) rfl
  have D_q_law_fixed : DfOk K mg q_law_fixed := ⟨⟨_, fd_q_law_fixed, He.glo_ok X G (c.fact 5 (f := .glo "_law_fixed") rfl), F_q_law_fixed, F_q_law_fixed.bindsN fun _ _ _ _ _ _ us hl => match us, hl with | [_, _], _ => rfl⟩, sq_law_fixed, rfl⟩
  obtain ⟨fd_q_stepped, F_q_stepped⟩ := c.def_ 6 (d := q_stepped.d) rfl
  have D_q_stepped : DfOk K mg q_stepped := ⟨⟨_, fd_q_stepped, He.glo_ok X G (c.fact 6 (f := .glo "stepped") rfl), F_q_stepped, F_q_stepped.bindsN fun _ _ _ _ _ _ us hl => match us, hl with | [_, _, _, _], _ => rfl⟩, sq_stepped, rfl⟩
  obtain ⟨fd_q_joined_great_sum, F_q_joined_great_sum⟩ := c.def_ 7 (d := q_joined_great_sum.d) rfl
  have D_q_joined_great_sum : DfOk K mg q_joined_great_sum := ⟨⟨_, fd_q_joined_great_sum, He.glo_ok X G (c.fact 7 (f := .glo "joined_great_sum") rfl), F_q_joined_great_sum, F_q_joined_great_sum.bindsN fun _ _ _ _ _ _ us hl => match us, hl with | [_, _, _], _ => rfl⟩, sq_joined_great_sum, rfl⟩
  obtain ⟨fd_q_law_whole_bytes, F_q_law_whole_bytes⟩ := c.def_ 8 (d := q_law_whole_bytes.d) rfl
  have D_q_law_whole_bytes : DfOk K mg q_law_whole_bytes := ⟨⟨_, fd_q_law_whole_bytes, He.glo_ok X G (c.fact 8 (f := .glo "_law_whole_bytes") rfl), F_q_law_whole_bytes, F_q_law_whole_bytes.bindsN fun _ _ _ _ _ _ us hl => match us, hl with | [_], _ => rfl⟩, sq_law_whole_bytes, rfl⟩
  obtain ⟨fd_q_sum_of, F_q_sum_of⟩ := c.def_ 9 (d := q_sum_of.d) rfl
  have D_q_sum_of : DfOk K mg q_sum_of := ⟨⟨_, fd_q_sum_of, He.glo_ok X G (c.fact 9 (f := .glo "sum_of") rfl), F_q_sum_of, F_q_sum_of.bindsN fun _ _ _ _ _ _ us hl => match us, hl with | [_, _, _], _ => rfl⟩, sq_sum_of, rfl⟩
  obtain ⟨fd_q_fixed, F_q_fixed⟩ := c.def_ 10 (d := q_fixed.d) rfl
  have D_q_fixed : DfOk K mg q_fixed := ⟨⟨_, fd_q_fixed, He.glo_ok X G (c.fact 10 (f := .glo "fixed") rfl), F_q_fixed, F_q_fixed.bindsN fun _ _ _ _ _ _ us hl => match us, hl with | [_, _], _ => rfl⟩, sq_fixed, rfl⟩
  obtain ⟨fd_q_bits_of, F_q_bits_of⟩ := c.def_ 11 (d := q_bits_of.d) rfl
  have D_q_bits_of : DfOk K mg q_bits_of := ⟨⟨_, fd_q_bits_of, He.glo_ok X G (c.fact 11 (f := .glo "bits_of") rfl), F_q_bits_of, F_q_bits_of.bindsN fun _ _ _ _ _ _ us hl => match us, hl with | [_], _ => rfl⟩, sq_bits_of, rfl⟩
  obtain ⟨fd_q_small_sum, F_q_small_sum⟩ := c.def_ 12 (d := q_small_sum.d) rfl
  have D_q_small_sum : DfOk K mg q_small_sum := ⟨⟨_, fd_q_small_sum, He.glo_ok X G (c.fact 12 (f := .glo "small_sum") rfl), F_q_small_sum, F_q_small_sum.bindsN fun _ _ _ _ _ _ us hl => match us, hl with | [_], _ => rfl⟩, sq_small_sum, rfl⟩
  obtain ⟨fd_q_great_sum, F_q_great_sum⟩ := c.def_ 13 (d := q_great_sum.d) rfl
  have D_q_great_sum : DfOk K mg q_great_sum := ⟨⟨_, fd_q_great_sum, He.glo_ok X G (c.fact 13 (f := .glo "great_sum") rfl), F_q_great_sum, F_q_great_sum.bindsN fun _ _ _ _ _ _ us hl => match us, hl with | [_], _ => rfl⟩, sq_great_sum, rfl⟩
  obtain ⟨fd_q_sum_bytes, F_q_sum_bytes⟩ := c.def_ 14 (d := q_sum_bytes.d) rfl
  have D_q_sum_bytes : DfOk K mg q_sum_bytes := ⟨⟨_, fd_q_sum_bytes, He.glo_ok X G (c.fact 14 (f := .glo "sum_bytes") rfl), F_q_sum_bytes, F_q_sum_bytes.bindsN fun _ _ _ _ _ _ us hl => match us, hl with | [_], _ => rfl⟩, sq_sum_bytes, rfl⟩
  obtain ⟨fd_q_law_summed, F_q_law_summed⟩ := c.def_ 15 (d := q_law_summed.d) rfl
  have D_q_law_summed : DfOk K mg q_law_summed := ⟨⟨_, fd_q_law_summed, He.glo_ok X G (c.fact 15 (f := .glo "_law_summed") rfl), F_q_law_summed, F_q_law_summed.bindsN fun _ _ _ _ _ _ us hl => match us, hl with | [_], _ => rfl⟩, sq_law_summed, rfl⟩
  obtain ⟨fd, F⟩ := c.def_ 16 (d := q_law.d) rfl
  have e := hfa.symm.trans (He.glo_ok X G (c.fact 16 (f := .glo "law") rfl))
  cases e
  have b := FunD.bindsA (ps := ["script"]) F fun _ _ _ _ _ _ us hl => match us, hl with | [_], _ => rfl
  refine ⟨fd, fun s v => b s [v] rfl, fun base _ _ => ?_⟩
  have t0 : TabOk P w K mg base noXR T0 0 := by
    refine ⟨fun e he => (by cases he), fun q hq => ?_, fun x hx => ?_⟩
    · simp only [T0, List.mem_cons, List.not_mem_nil, or_false] at hq
      rcases hq with rfl | rfl
      · obtain ⟨t, ht⟩ := He.int_ok X G (c.fact 26 (f := .int "SMALL" (7)) rfl)
        exact ⟨_, .int (7), ht, ⟨t, rfl⟩, fun H => .int _⟩
      · obtain ⟨t, ht⟩ := He.int_ok X G (c.fact 27 (f := .int "GREAT" (32773)) rfl)
        exact ⟨_, .int (32773), ht, ⟨t, rfl⟩, fun H => .int _⟩
    · simp only [T0, List.mem_cons, List.not_mem_nil, or_false] at hx
      rcases hx with rfl | rfl | rfl | rfl | rfl | rfl | rfl | rfl | rfl
      · exact He.free_ok X G (c.fact 17 (f := .free "abs") rfl)
      · exact He.free_ok X G (c.fact 18 (f := .free "all") rfl)
      · exact He.free_ok X G (c.fact 19 (f := .free "bool") rfl)
      · exact He.free_ok X G (c.fact 20 (f := .free "int") rfl)
      · exact He.free_ok X G (c.fact 21 (f := .free "isinstance") rfl)
      · exact He.free_ok X G (c.fact 22 (f := .free "len") rfl)
      · exact He.free_ok X G (c.fact 23 (f := .free "range") rfl)
      · exact He.free_ok X G (c.fact 24 (f := .free "str") rfl)
      · exact He.free_ok X G (c.fact 25 (f := .free "tuple") rfl)
  have tk : TabOk P w K mg base noXR (mkTab T0 qs) (0 + 19) := tab_ok qs T0 0 t0 fun q hq => by
    simp only [qs, List.mem_cons, List.not_mem_nil, or_false] at hq
    rcases hq with rfl | rfl | rfl | rfl | rfl | rfl | rfl | rfl | rfl | rfl | rfl | rfl | rfl | rfl | rfl | rfl | rfl | rfl | rfl
    · exact D_q_law_draws
    · exact D_q_law_sum
    · exact D_q_law_cell
    · exact D_q_law_is_integer
    · exact D_q_law_is
    · exact D_q_law_is
    · exact D_q_law_is
    · exact D_q_law_is
    · exact D_q_law_fixed
    · exact D_q_stepped
    · exact D_q_joined_great_sum
    · exact D_q_law_whole_bytes
    · exact D_q_sum_of
    · exact D_q_fixed
    · exact D_q_bits_of
    · exact D_q_small_sum
    · exact D_q_great_sum
    · exact D_q_sum_bytes
    · exact D_q_law_summed
  exact sem_ok (k := 19) F sq_law rfl (by rw [← tab_eq]; simpa only [Nat.zero_add] using tk)
end K02
open PySem PySem.W PySem.Calls PyProof.Rows
theorem PySem.Challenge.cw_psaltery_k02_whole_sums_that_tell_change_holds : PySem.Challenge.rw_psaltery_k02_whole_sums_that_tell_change.Holds := by
  w_on; o_law
  refine HandSHeadRun.head_any (r := OpenLaw.row PySem.Challenge.rw_psaltery_k02_whole_sums_that_tell_change) (q := view (OpenLaw.row PySem.Challenge.rw_psaltery_k02_whole_sums_that_tell_change).prog [22]) (H := K02.hk) (ob := K02.ob) (M := 2000) (loose := K02.loose) (d := HandSHeadRun.topDef (OpenLaw.row PySem.Challenge.rw_psaltery_k02_whole_sums_that_tell_change).prog 22) (kwd := []) K02.ob_eq
    (by kernel_rfl) (fun s => by kernel_rfl) K02.run (by kernel_rfl) (by kernel_rfl) (by kernel_rfl) (by rfl) (by first | assumption | decide +kernel) (by decide +kernel) ⟨rfl, rfl, rfl, rfl, rfl, by decide +kernel⟩ ?hw ?hc
  case hw => w_witness2
  case hc =>
    refine Dv.walk_ofW (l := PySem.Challenge.rw_psaltery_k02_whole_sums_that_tell_change) (n := 63) (k := 20) (x := "script") rfl (by decide) (by kernel_rfl) ⟨rfl, by decide, by decide⟩ ?F
    intro w mg fa h Y G hmg0
    obtain ⟨K, KX, c⟩ := Y
    have hmg : mg ("law" : PySem.Str) = some (.ref fa) := by
      have e : (HandSHeadRun.topDef (OpenLaw.row PySem.Challenge.rw_psaltery_k02_whole_sums_that_tell_change).prog 22).name = ("law" : PySem.Str) := by kernel_rfl
      rw [← e]
      exact hmg0
    obtain ⟨fd, hb, hF⟩ := K02.facts (P := (PySem.Challenge.rw_psaltery_k02_whole_sums_that_tell_change).prog) (w := w) KX G hmg c
    exact ⟨K, fd, _, KX, hb, K02.plain_all, hF⟩
