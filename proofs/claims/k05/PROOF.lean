import PyProof.Rows.All
import Wide.All
import OpenK.AllK
import Wide.FinOn
import HandS.ForMost
import HandS.Evl
import HandS.Star
import HandS.ClsMeth
import HandS.Defaults
import HandS.Codes
import HandS.SlotsOwn
import HandS.OwnEq
import HandS.IterVal
import KE.KOpsOwn
import KE.KCallOwn
import KE.KOwnIter
import HandS.OwnIter
import HandS.Wide
import HandS.Text
import HandS.FStr
import HandS.Small
import HandS.Dict
import HandS.Zip
import HandS.TupAny
import HandS.Iter
import KE.GoesMore
import HandS.DictComp
import KE.KDictCopyH
import HandS.Head0
import HandS.Head1
import HandS.Head2
import HandS.HeadNt
import KE.KStateDown
import HandS.Exc
import PyProof.NeKinds
import HandS.HeadEnd
import PySem.Challenge.RW_truthfees_k05_whole_priced_twins_and_few
set_option Elab.async false
set_option linter.all false
set_option maxRecDepth 100000
set_option maxHeartbeats 0
section
/-! The typed layer: knowledge heaps, slots, judgements. -/
namespace Ty
open PySem PySem.Spec PyProof.Rows L2
open Evl (Ex)

/-- what is known of a value, for good -/
structure Pd where
  p : V → Hp → Prop
  mono : ∀ {v : V} {G G' : Hp}, Ex G G' → p v G → p v G'
/-- what is known of an object that may still change, over what is known for good -/
structure Mo where
  m : HO → Hp → Prop
  mono : ∀ {o : HO} {G G' : Hp}, Ex G G' → m o G → m o G'
/-- a local name's slot -/
inductive Sl where
  | any
  | is (P : Pd)
  | mu (M : Mo)
  | own (M : Mo)
  | gh (b : Addr) (M : Mo)
def Sl.mut : Sl → Prop
  | .mu _ => True
  | .own _ => True
  | .gh _ _ => True
  | _ => False
def SlOk (q : Option Addr) (F : Addr → Prop) (a : Addr) (s : Sl) (x : Option (Option V)) (G H : Hp) : Prop :=
  match s with
  | .any => True
  | .is P => ∃ v, x = some (some v) ∧ P.p v G
  | .mu M => x = some (some (.ref a)) ∧ q ≠ some a ∧ F a ∧ G a = none ∧ ∃ o, H a = some o ∧ M.m o G
  | .own M => x = some (some (.ref a)) ∧ q = some a ∧ G a = none ∧ ∃ o, H a = some o ∧ M.m o G
  | .gh b M => b = a ∧ q ≠ some a ∧ F a ∧ G a = none ∧ ∃ o, H a = some o ∧ M.m o G
/-- the state: what is known for good lies in the heap; the slots hold what is said -/
structure SIa (q : Option Addr) (F : Addr → Prop) (ad : Nat → Addr) (Ga : List Sl) (σ : L2.St) (G H : Hp) : Prop where
  sub : Ex G H
  len : σ.length = Ga.length
  ok : ∀ i s, Ga[i]? = some s → SlOk q F (ad i) s σ[i]? G H
  ne : ∀ i j s t, i ≠ j → Ga[i]? = some s → Ga[j]? = some t → s.mut → t.mut → ad i ≠ ad j
  qt : ∀ a, q = some a → G a = none ∧ ∃ o, H a = some o
def SI (q : Option Addr) (F : Addr → Prop) (Ga : List Sl) (σ : L2.St) (G H : Hp) : Prop := ∃ ad, SIa q F ad Ga σ G H
/-- a step that changes at most the object at q -/
structure Step (q : Option Addr) (G H G' H' : Hp) : Prop where
  k : Ex G G'
  s : Ex G' H'
  f : ∀ a o, q ≠ some a → H a = some o → H' a = some o
  n : ∀ a o, G' a = some o → (∃ u, G a = some u) ∨ H a = none
  r : ∀ a, q = some a → (∃ o, H a = some o) → ∃ o, H' a = some o

theorem Ex.refl (H : Hp) : Ex H H := fun _ _ h => h
theorem Ex.trans {H H1 H2 : Hp} (a : Ex H H1) (b : Ex H1 H2) : Ex H H2 := fun x o h => b x o (a x o h)
theorem Step.refl {q : Option Addr} {G H : Hp} (e : Ex G H) : Step q G H G H := ⟨Ex.refl G, e, fun _ _ _ h => h, fun _ o h => .inl ⟨o, h⟩, fun _ _ h => h⟩
theorem Step.trans {q : Option Addr} {G H G1 H1 G2 H2 : Hp} (a : Step q G H G1 H1) (b : Step q G1 H1 G2 H2) : Step q G H G2 H2 := by
  refine ⟨Ex.trans a.k b.k, b.s, fun x o h1 h2 => b.f x o h1 (a.f x o h1 h2), fun x o h => ?_, fun x e h => b.r x e (a.r x e h)⟩
  rcases b.n x o h with ⟨u, h'⟩ | h'
  · exact a.n x u h'
  · right
    cases e : H x with
    | none => rfl
    | some u =>
      by_cases hq : q = some x
      · obtain ⟨o', e'⟩ := a.r x hq ⟨u, e⟩
        rw [e'] at h'; cases h'
      · rw [a.f x u hq e] at h'; cases h'
theorem Step.any {q : Option Addr} {G H G' H' : Hp} (a : Step none G H G' H') : Step q G H G' H' :=
  ⟨a.k, a.s, fun x o _ h => a.f x o (by simp) h, a.n, fun x _ ⟨o, h⟩ => ⟨o, a.f x o (by simp) h⟩⟩
theorem Step.ex {G H G' H' : Hp} (a : Step none G H G' H') : Ex H H' := fun x o h => a.f x o (by simp) h
/-- a new object, known for good -/
theorem Step.new {q : Option Addr} {G H : Hp} {p : Addr} {o : HO} (e : Ex G H) (h : H p = none) : Step q G H (upd G p o) (upd H p o) := by
  have hg : G p = none := Evl.fresh_back e h
  refine ⟨Evl.Ex.new hg, fun a u ha => ?_, fun a u _ ha => ?_, fun a u ha => ?_, fun a _ ⟨u, ha⟩ => ⟨u, ?_⟩⟩
  · by_cases c : a = p
    · subst c; rw [upd_same] at ha ⊢; exact ha
    · rw [upd_ne c] at ha ⊢; exact e a u ha
  · rw [upd_ne (ne_of_none ha h)]; exact ha
  · by_cases c : a = p
    · subst c; exact .inr h
    · rw [upd_ne c] at ha; exact .inl ⟨u, ha⟩
  · rw [upd_ne (ne_of_none ha h)]; exact ha
/-- a new object that is not known (it may change) -/
theorem Step.newM {q : Option Addr} {G H : Hp} {p : Addr} {o : HO} (e : Ex G H) (h : H p = none) : Step q G H G (upd H p o) := by
  refine ⟨Ex.refl G, fun a u ha => ?_, fun a u _ ha => ?_, fun a u ha => .inl ⟨u, ha⟩, fun a _ ⟨u, ha⟩ => ⟨u, ?_⟩⟩
  · rw [upd_ne (ne_of_none (e a u ha) h)]; exact e a u ha
  · rw [upd_ne (ne_of_none ha h)]; exact ha
  · rw [upd_ne (ne_of_none ha h)]; exact ha

/-! ### the state's rules -/
section
variable {q : Option Addr} {F : Addr → Prop} {Ga Gb : List Sl} {σ : L2.St} {G H G' H' : Hp} {i : Nat} {P : Pd} {M : Mo} {v : V}
theorem SI.sub (h : SI q F Ga σ G H) : Ex G H := let ⟨_, h⟩ := h; h.sub
theorem SlOk.step {a : Addr} {s : Sl} {x : Option (Option V)} (t : Step q G H G' H') (h : SlOk q F a s x G H) (ho : ∀ b o, q = some b → H b = some o → H' b = some o) : SlOk q F a s x G' H' := by
  have gn : G a = none → (∃ o, H a = some o) → G' a = none := fun g ⟨o, ho'⟩ => by
    cases e : G' a with
    | none => rfl
    | some u =>
      rcases t.n a u e with ⟨u', e'⟩ | e'
      · rw [g] at e'; cases e'
      · rw [ho'] at e'; cases e'
  cases s with
  | any => trivial
  | is P => obtain ⟨v, e, p⟩ := h; exact ⟨v, e, P.mono t.k p⟩
  | mu M =>
    obtain ⟨e, nq, f, g, o, ho', m⟩ := h
    exact ⟨e, nq, f, gn g ⟨o, ho'⟩, o, t.f a o nq ho', M.mono t.k m⟩
  | own M =>
    obtain ⟨e, eq, g, o, ho', m⟩ := h
    exact ⟨e, eq, gn g ⟨o, ho'⟩, o, ho a o eq ho', M.mono t.k m⟩
  | gh b M =>
    obtain ⟨e, nq, f, g, o, ho', m⟩ := h
    exact ⟨e, nq, f, gn g ⟨o, ho'⟩, o, t.f a o nq ho', M.mono t.k m⟩
theorem SI.step (h : SI q F Ga σ G H) (t : Step q G H G' H') (ho : ∀ b o, q = some b → H b = some o → H' b = some o) : SI q F Ga σ G' H' := by
  obtain ⟨ad, h⟩ := h
  refine ⟨ad, t.s, h.len, fun i s e => (h.ok i s e).step t ho, h.ne, fun a e => ?_⟩
  obtain ⟨g, o, e'⟩ := h.qt a e
  refine ⟨?_, o, ho a o e e'⟩
  cases c : G' a with
  | none => rfl
  | some u =>
    rcases t.n a u c with ⟨u', c'⟩ | c'
    · rw [g] at c'; cases c'
    · rw [e'] at c'; cases c'
theorem SI.pure (h : SI q F Ga σ G H) (t : Step none G H G' H') : SI q F Ga σ G' H' := h.step t.any fun b o _ e => t.ex b o e
theorem SI.get (h : SI q F Ga σ G H) (e : Ga[i]? = some (.is P)) : ∃ v, σ[i]? = some (some v) ∧ P.p v G := by
  obtain ⟨ad, h⟩ := h
  exact h.ok i _ e
/-- a slot is filled -/
theorem SI.put (h : SI q F Ga σ G H) (p : P.p v G) : SI q F (Ga.set i (.is P)) (σ.set i (some v)) G H := by
  obtain ⟨ad, h⟩ := h
  refine ⟨ad, h.sub, by rw [List.length_set, List.length_set]; exact h.len, fun j s e => ?_, fun j k s t hn e1 e2 m1 m2 => ?_, ?_⟩
  rotate_left 2
  · exact h.qt
  · by_cases c : i = j
    · subst c
      have hl : i < Ga.length := by
        have := (List.getElem?_eq_some_iff.mp e).1
        rwa [List.length_set] at this
      rw [List.getElem?_set_self hl] at e
      cases e
      exact ⟨v, by rw [List.getElem?_set_self (by rw [h.len]; exact hl)], p⟩
    · rw [List.getElem?_set_ne c] at e ⊢
      exact h.ok j s e
  · have key : ∀ (x : Nat) (y : Sl), (Ga.set i (.is P))[x]? = some y → y.mut → Ga[x]? = some y := fun x y e m => by
      by_cases c : i = x
      · subst c
        have hl : i < Ga.length := by
          have := (List.getElem?_eq_some_iff.mp e).1
          rwa [List.length_set] at this
        rw [List.getElem?_set_self hl] at e
        cases e
        exact m.elim
      · rwa [List.getElem?_set_ne c] at e
    exact h.ne j k s t hn (key j s e1 m1) (key k t e2 m2) m1 m2
end
/-! ### weaker states -/
inductive SlLe : Sl → Sl → Prop where
  | any {s : Sl} : SlLe s .any
  | rfl {s : Sl} : SlLe s s
  | is {P P' : Pd} (h : ∀ v G, P.p v G → P'.p v G) : SlLe (.is P) (.is P')
  | mu {M M' : Mo} (h : ∀ o G, M.m o G → M'.m o G) : SlLe (.mu M) (.mu M')
  | own {M M' : Mo} (h : ∀ o G, M.m o G → M'.m o G) : SlLe (.own M) (.own M')
  | gh {b : Addr} {M M' : Mo} (h : ∀ o G, M.m o G → M'.m o G) : SlLe (.gh b M) (.gh b M')
inductive GaLe : List Sl → List Sl → Prop where
  | nil : GaLe [] []
  | cons {s t : Sl} {a b : List Sl} (h : SlLe s t) (r : GaLe a b) : GaLe (s :: a) (t :: b)
theorem GaLe.refl : ∀ a : List Sl, GaLe a a
  | [] => .nil
  | _ :: a => .cons .rfl (GaLe.refl a)
theorem GaLe.length {a b : List Sl} (h : GaLe a b) : a.length = b.length := by
  induction h with
  | nil => rfl
  | cons _ _ ih => rw [List.length_cons, List.length_cons, ih]
theorem GaLe.get {a b : List Sl} (h : GaLe a b) : ∀ {i : Nat} {t : Sl}, b[i]? = some t → ∃ s, a[i]? = some s ∧ SlLe s t := by
  induction h with
  | nil => intro i t e; simp at e
  | cons h r ih =>
    intro i t e
    cases i with
    | zero => simp at e; subst e; exact ⟨_, by simp, h⟩
    | succ i => simp at e; obtain ⟨s, e1, e2⟩ := ih e; exact ⟨s, by simpa using e1, e2⟩
theorem SlLe.mut {s t : Sl} (h : SlLe s t) (m : t.mut) : s.mut := by
  cases h with
  | any => exact m.elim
  | rfl => exact m
  | is _ => exact m.elim
  | mu _ => trivial
  | own _ => trivial
  | gh _ => trivial
theorem SI.weak {q : Option Addr} {F : Addr → Prop} {Ga Gb : List Sl} {σ : L2.St} {G H : Hp} (h : SI q F Ga σ G H) (l : GaLe Ga Gb) : SI q F Gb σ G H := by
  obtain ⟨ad, h⟩ := h
  refine ⟨ad, h.sub, by rw [← l.length]; exact h.len, fun i t e => ?_, fun i j s t hn e1 e2 m1 m2 => ?_, h.qt⟩
  · obtain ⟨s, e1, hs⟩ := l.get e
    have k := h.ok i s e1
    cases hs with
    | any => trivial
    | rfl => exact k
    | is hp => obtain ⟨v, e, p⟩ := k; exact ⟨v, e, hp _ _ p⟩
    | mu hp => obtain ⟨e, nq, f, g, o, ho', m⟩ := k; exact ⟨e, nq, f, g, o, ho', hp _ _ m⟩
    | own hp => obtain ⟨e, eq, g, o, ho', m⟩ := k; exact ⟨e, eq, g, o, ho', hp _ _ m⟩
    | gh hp => obtain ⟨e, nq, f, g, o, ho', m⟩ := k; exact ⟨e, nq, f, g, o, ho', hp _ _ m⟩
  · obtain ⟨s1, k1, h1⟩ := l.get e1
    obtain ⟨s2, k2, h2⟩ := l.get e2
    exact h.ne i j s1 s2 hn k1 k2 (h1.mut m1) (h2.mut m2)

/-! ### lists of what is known -/
def AllP : List Pd → List V → Hp → Prop
  | [], [], _ => True
  | P :: Ps, v :: vs, G => P.p v G ∧ AllP Ps vs G
  | _, _, _ => False
theorem AllP.mono {G G' : Hp} (e : Ex G G') : ∀ {Ps : List Pd} {vs : List V}, AllP Ps vs G → AllP Ps vs G'
  | [], [], _ => trivial
  | P :: Ps, v :: vs, h => ⟨P.mono e h.1, AllP.mono e h.2⟩
  | [], _ :: _, h => h.elim
  | _ :: _, [], h => h.elim
theorem AllP.length {G : Hp} : ∀ {Ps : List Pd} {vs : List V}, AllP Ps vs G → vs.length = Ps.length
  | [], [], _ => rfl
  | P :: Ps, v :: vs, h => congrArg Nat.succ (AllP.length h.2)
  | [], _ :: _, h => h.elim
  | _ :: _, [], h => h.elim
theorem AllP.append {G : Hp} : ∀ {Ps Qs : List Pd} {vs ws : List V}, AllP Ps vs G → AllP Qs ws G → AllP (Ps ++ Qs) (vs ++ ws) G
  | [], _, [], _, _, h => h
  | P :: Ps, _, v :: vs, _, h, k => ⟨h.1, AllP.append h.2 k⟩
  | [], _, _ :: _, _, h, _ => h.elim
  | _ :: _, _, [], _, h, _ => h.elim
theorem AllP.get {G : Hp} : ∀ {Ps : List Pd} {vs : List V} {i : Nat} {P : Pd}, AllP Ps vs G → Ps[i]? = some P → ∃ v, vs[i]? = some v ∧ P.p v G
  | P :: Ps, v :: vs, 0, Q, h, e => by simp at e; subst e; exact ⟨v, by simp, h.1⟩
  | P :: Ps, v :: vs, i + 1, Q, h, e => by simpa using AllP.get h.2 (i := i) (P := Q) (by simpa using e)
  | [], _, _, _, _, e => by simp at e
  | _ :: _, [], _, _, h, _ => h.elim
theorem AllP.get' {G : Hp} : ∀ {Ps : List Pd} {vs : List V} {i : Nat} {v : V}, AllP Ps vs G → vs[i]? = some v → ∃ P, Ps[i]? = some P ∧ P.p v G
  | P :: Ps, v :: vs, 0, w, h, e => by simp at e; subst e; exact ⟨P, by simp, h.1⟩
  | P :: Ps, v :: vs, i + 1, w, h, e => by simpa using AllP.get' h.2 (i := i) (v := w) (by simpa using e)
  | _, [], _, _, _, e => by simp at e
  | [], _ :: _, _, _, h, _ => h.elim
theorem AllP.set {G : Hp} {P : Pd} {v : V} (p : P.p v G) : ∀ {Ps : List Pd} {vs : List V} (i : Nat), AllP Ps vs G → AllP (Ps.set i P) (vs.set i v) G
  | [], [], _, _ => trivial
  | Q :: Ps, w :: vs, 0, h => ⟨p, h.2⟩
  | Q :: Ps, w :: vs, i + 1, h => ⟨h.1, AllP.set p i h.2⟩
  | [], _ :: _, _, h => h.elim
  | _ :: _, [], _, h => h.elim
theorem AllP.take {G : Hp} : ∀ {Ps : List Pd} {vs : List V} (n : Nat), AllP Ps vs G → AllP (Ps.take n) (vs.take n) G
  | _, _, 0, _ => trivial
  | [], [], _ + 1, _ => trivial
  | P :: Ps, v :: vs, n + 1, h => ⟨h.1, AllP.take n h.2⟩
  | [], _ :: _, _ + 1, h => h.elim
  | _ :: _, [], _ + 1, h => h.elim
theorem AllP.drop {G : Hp} : ∀ {Ps : List Pd} {vs : List V} (n : Nat), AllP Ps vs G → AllP (Ps.drop n) (vs.drop n) G
  | _, _, 0, h => h
  | [], [], _ + 1, _ => trivial
  | P :: Ps, v :: vs, n + 1, h => AllP.drop n h.2
  | [], _ :: _, _ + 1, h => h.elim
  | _ :: _, [], _ + 1, h => h.elim

/-! ### predicates -/
def Is (x : V) : Pd := ⟨fun v _ => v = x, fun _ h => h⟩
def IsI (i : Int) : Pd := Is (.int i)
def IsB (b : Bool) : Pd := Is (.bl b)
/-- some x of C -/
def Some' {α : Type} (C : α → Prop) (P : α → Pd) : Pd := ⟨fun v G => ∃ x, C x ∧ (P x).p v G, fun e ⟨x, c, h⟩ => ⟨x, c, (P x).mono e h⟩⟩
def Ls (Ps : List Pd) : Pd := ⟨fun v G => ∃ a xs, v = .ref a ∧ G a = some (.lst xs) ∧ AllP Ps xs G, fun e ⟨a, xs, h1, h2, h3⟩ => ⟨a, xs, h1, e _ _ h2, h3.mono e⟩⟩
def Tp (Ps : List Pd) : Pd := ⟨fun v G => ∃ a xs, v = .ref a ∧ G a = some (.tup xs) ∧ AllP Ps xs G, fun e ⟨a, xs, h1, h2, h3⟩ => ⟨a, xs, h1, e _ _ h2, h3.mono e⟩⟩
/-- a list that may change -/
def Ml (Ps : List Pd) : Mo := ⟨fun o G => ∃ xs, o = .lst xs ∧ AllP Ps xs G, fun e ⟨xs, h1, h2⟩ => ⟨xs, h1, h2.mono e⟩⟩

/-! ### contexts -/
/-- a family of contexts in one def's body -/
structure Fam {ι : Type} (X : ι → Cx) (P : Program) (w : World) (K : PySem.W.Frag) (mg : Str → Option Value) (base : Heap) (j : Nat) : Prop where
  prog : ∀ i, (X i).prog = P
  w : ∀ i, (X i).w = w
  K : ∀ i, (X i).K = K
  mg : ∀ i, (X i).mg = mg
  base : ∀ i, (X i).base = base
  calm : ∀ i, (X i).calm = true
  room : ∀ i, Room j (X i).A

/-! ### universal readings -/
section
variable {ι : Type}
def uE (X : ι → Cx) (e : Expr) : TE := fun σ H Q => ∃ t : TE, (∀ i, PE (X i) e t) ∧ t σ H Q
def uA (X : ι → Cx) (es : List Expr) : TA := fun σ H Q => ∃ t : TA, (∀ i, PA (X i) es t) ∧ t σ H Q
def uT (X : ι → Cx) (e : Expr) : TT := fun σ H Q => ∃ t : TT, (∀ i, PT (X i) e t) ∧ t σ H Q
def uW (X : ι → Cx) (e : Expr) : TT := fun σ H Q => ∃ t : TT, (∀ i, PW (X i) e t) ∧ t σ H Q
def uG (X : ι → Cx) (e : Expr) : TG := fun v σ H Q => ∃ t : TG, (∀ i, PG (X i) e t) ∧ t v σ H Q
def uI (X : ι → Cx) (tg e : Expr) : TI := fun σ H R => ∃ t : TI, (∀ i, PI (X i) tg e t) ∧ t σ H R
def uS (X : ι → Cx) (st : Stmt) : TS := fun D σ H => ∃ t : TS, (∀ i, PS (X i) st t) ∧ t D σ H
def uB (X : ι → Cx) (st : List Stmt) : TS := fun D σ H => ∃ t : TS, (∀ i, PSs (X i) st t) ∧ t D σ H
variable {X : ι → Cx} {e tg : Expr} {es : List Expr} {st : Stmt} {sts : List Stmt}
theorem uE_pe (i : ι) : PE (X i) e (uE X e) := ⟨fun pins s σ H Q I ⟨_, h1, h2⟩ => (h1 i).run pins s σ H Q I h2⟩
theorem uA_pa (i : ι) : PA (X i) es (uA X es) := ⟨fun pos pins s σ H Q I ⟨_, h1, h2⟩ => (h1 i).run pos pins s σ H Q I h2⟩
theorem uT_pt (i : ι) : PT (X i) e (uT X e) := ⟨fun pins s σ H Q I ⟨_, h1, h2⟩ => (h1 i).run pins s σ H Q I h2⟩
theorem uW_pw (i : ι) : PW (X i) e (uW X e) := ⟨fun wh pins s σ H Q I ⟨_, h1, h2⟩ => (h1 i).run wh pins s σ H Q I h2⟩
theorem uG_pg (i : ι) : PG (X i) tg (uG X tg) := ⟨fun pins s σ H v u Q I r ⟨_, h1, h2⟩ => (h1 i).run pins s σ H v u Q I r h2⟩
theorem uI_pi (i : ι) : PI (X i) tg e (uI X tg e) := ⟨fun pins s σ H R I ⟨_, h1, h2⟩ => (h1 i).run pins s σ H R I h2⟩
theorem uS_ps (i : ι) : PS (X i) st (uS X st) := ⟨fun pins s σ H D I ⟨_, h1, h2⟩ => (h1 i).run pins s σ H D I h2⟩
theorem uB_ps (i : ι) : PSs (X i) sts (uB X sts) := ⟨fun pins s σ H D I ⟨_, h1, h2⟩ => (h1 i).run pins s σ H D I h2⟩
end

/-! ### judgements -/
section
variable {ι : Type}
def TyE (X : ι → Cx) (Ga : List Sl) (e : Expr) (P : Pd) (Gb : List Sl) : Prop :=
  ∀ (q : Option Addr) (F : Addr → Prop) (σ : L2.St) (G H : Hp), SI q F Ga σ G H → ∀ Q : VK,
    (∀ v G' H', Step q G H G' H' → SI q F Gb σ G' H' → P.p v G' → Q v H') → uE X e σ H Q
def TyA (X : ι → Cx) (Ga : List Sl) (es : List Expr) (Ps : List Pd) (Gb : List Sl) : Prop :=
  ∀ (q : Option Addr) (F : Addr → Prop) (σ : L2.St) (G H : Hp), SI q F Ga σ G H → ∀ Q : List V → Hp → Prop,
    (∀ vs G' H', Step q G H G' H' → SI q F Gb σ G' H' → AllP Ps vs G' → Q vs H') → uA X es σ H Q
def TyT (X : ι → Cx) (Ga : List Sl) (e : Expr) (b : Bool) (Gb : List Sl) : Prop :=
  ∀ (q : Option Addr) (F : Addr → Prop) (σ : L2.St) (G H : Hp), SI q F Ga σ G H → ∀ Q : Bool → Hp → Prop,
    (∀ G' H', Step q G H G' H' → SI q F Gb σ G' H' → Q b H') → uT X e σ H Q
def TyW (X : ι → Cx) (Ga : List Sl) (e : Expr) (b : Bool) (Gb : List Sl) : Prop :=
  ∀ (q : Option Addr) (F : Addr → Prop) (σ : L2.St) (G H : Hp), SI q F Ga σ G H → ∀ Q : Bool → Hp → Prop,
    (∀ G' H', Step q G H G' H' → SI q F Gb σ G' H' → Q b H') → uW X e σ H Q
/-- a target, filled by a value of P -/
def Off (ks : List Nat) (σ σ' : L2.St) : Prop := σ'.length = σ.length ∧ ∀ j, j ∉ ks → σ'[j]? = σ[j]?
def TyG (X : ι → Cx) (Ga : List Sl) (P : Pd) (tg : Expr) (ks : List Nat) (Gb : List Sl) : Prop :=
  ∀ (q : Option Addr) (F : Addr → Prop) (σ : L2.St) (G H : Hp) (v : V), SI q F Ga σ G H → P.p v G → ∀ Q : L2.St → Hp → Prop,
    (∀ σ' G' H', Step q G H G' H' → Off ks σ σ' → SI q F Gb σ' G' H' → Q σ' H') → uG X tg v σ H Q
/-- what is walked: the items are known -/
structure WalkT (J : It) (its : List Pd) (G0 : Hp) : Prop where
  go : ∀ i G H, Ex G0 G → Ex G H → i < its.length → J.go i H
  stop : ∀ G H, Ex G0 G → Ex G H → J.stop its.length H
  yld : ∀ i P G H x H', Ex G0 G → Ex G H → its[i]? = some P → J.yld i H x H' → ∃ G', Step none G H G' H' ∧ P.p x G'
def TyI (X : ι → Cx) (Ga : List Sl) (tg e : Expr) (its : List Pd) (Gb : List Sl) : Prop :=
  ∀ (q : Option Addr) (F : Addr → Prop) (σ : L2.St) (G H : Hp), SI q F Ga σ G H → ∀ R : It → Hp → Prop,
    (∀ J G' H', Step q G H G' H' → SI q F Gb σ G' H' → WalkT J its G' → R J H') → uI X tg e σ H R
/-- where a def's body stands: the object that it may change, the entry -/
structure Bs where
  q : Option Addr
  G0 : Hp
  H0 : Hp
def Fr (b : Bs) : Addr → Prop := fun a => b.H0 a = none
structure FS (b : Bs) (Ga : List Sl) (σ : L2.St) (G H : Hp) : Prop where
  si : SI b.q (Fr b) Ga σ G H
  st : Step b.q b.G0 b.H0 G H
def FSo (b : Bs) : Option (List Sl) → L2.St → Hp → Hp → Prop
  | none, _, _, _ => False
  | some Ga, σ, G, H => FS b Ga σ G H
structure RetOk (b : Bs) (R : Pd) (O : Option Mo) (v : V) (G H : Hp) : Prop where
  st : Step b.q b.G0 b.H0 G H
  r : R.p v G
  o : ∀ M, O = some M → ∃ a o, b.q = some a ∧ G a = none ∧ H a = some o ∧ M.m o G
def TyB (X : ι → Cx) (Ga : List Sl) (sts : List Stmt) (n : Option (List Sl)) (R : Pd) (O : Option Mo) : Prop :=
  ∀ (b : Bs) (σ : L2.St) (G H : Hp) (D : Ends), FS b Ga σ G H →
    (∀ σ' G' H', Ex G G' → FSo b n σ' G' H' → D.nx σ' H') → (∀ v G' H', RetOk b R O v G' H' → D.rt v H') → uB X sts D σ H
def TyS (X : ι → Cx) (Ga : List Sl) (st : Stmt) (n : Option (List Sl)) (R : Pd) (O : Option Mo) : Prop :=
  ∀ (b : Bs) (σ : L2.St) (G H : Hp) (D : Ends), FS b Ga σ G H →
    (∀ σ' G' H', Ex G G' → FSo b n σ' G' H' → D.nx σ' H') → (∀ v G' H', RetOk b R O v G' H' → D.rt v H') → uS X st D σ H
end

section
variable {ι : Type} {X : ι → Cx} {Ga Gb Gc Gd : List Sl} {e a c d tg iter : Expr} {es : List Expr} {P P' P1 P2 P3 : Pd} {Ps Qs its : List Pd} {n : Option (List Sl)} {R : Pd} {O : Option Mo} {rest sts th el body : List Stmt} {st : Stmt} {pos : Pos} {b b1 b2 : Bool}

/-! ### expressions -/
theorem TyE.conv (h : TyE X Ga e P Gb) (hp : ∀ v G, P.p v G → P'.p v G) : TyE X Ga e P' Gb :=
  fun q F σ G H I Q k => h q F σ G H I Q fun v G' H' t I' p => k v G' H' t I' (hp v G' p)
theorem TyE.eq (h : TyE X Ga e P Gb) (hp : P = P') : TyE X Ga e P' Gb := hp ▸ h
theorem TyE.weak (h : TyE X Ga e P Gb) (l : GaLe Gc Ga) : TyE X Gc e P Gb := fun q F σ G H I Q k => h q F σ G H (I.weak l) Q k
/-- an expression whose value is taken apart: for each possible one -/
theorem e_var {i : Nat} {x : Str} (hv : ∀ j, PE (X j) (.Name x pos) (tVar i)) (h : Ga[i]? = some (.is P)) : TyE X Ga (.Name x pos) P Ga := fun q F σ G H I Q k => by
  obtain ⟨v, e, p⟩ := I.get h
  exact ⟨tVar i, hv, v, e, k v G H (Step.refl I.sub) I p⟩
/-- a constant of the text, of the module -/
theorem e_c {v : V} (h : ∀ j, PE (X j) e (tC v)) : TyE X Ga e (Is v) Ga := fun q F σ G H I Q k => ⟨tC v, h, k v G H (Step.refl I.sub) I rfl⟩
theorem e_int {i : Int} {k : Nat} : TyE X Ga (.Constant (.int i) k pos) (IsI i) Ga := e_c fun _ => pe_int
theorem e_bl {b : Bool} {k : Nat} : TyE X Ga (.Constant (.bool b) k pos) (IsB b) Ga := e_c fun _ => pe_bl
theorem e_non {k : Nat} : TyE X Ga (.Constant .none k pos) (Is .non) Ga := e_c fun _ => pe_non
theorem e_str {x : Str} {k : Nat} : TyE X Ga (.Constant (.str x) k pos) (Is (.str x)) Ga := e_c fun _ => pe_str
/-- an operation on two values -/
def OpT (r : R2) (P1 P2 P : Pd) : Prop := ∀ (x y : V) (G H : Hp) (Q : VK), Ex G H → P1.p x G → P2.p y G → (∀ z G' H', Step none G H G' H' → P.p z G' → Q z H') → r x y H Q
def UnT (r : V → Hp → VK → Prop) (P1 P : Pd) : Prop := ∀ (x : V) (G H : Hp) (Q : VK), Ex G H → P1.p x G → (∀ z G' H', Step none G H G' H' → P.p z G' → Q z H') → r x H Q
def CaT (r : List V → Hp → VK → Prop) (Ps : List Pd) (P : Pd) : Prop := ∀ (xs : List V) (G H : Hp) (Q : VK), Ex G H → AllP Ps xs G → (∀ z G' H', Step none G H G' H' → P.p z G' → Q z H') → r xs H Q
/-- two parts, a reading that joins them -/
theorem e_bin {r : R2} (mk : ∀ i, PE (X i) e (tOp r (uE X a) (uE X c))) (ha : TyE X Ga a P1 Gb) (hc : TyE X Gb c P2 Gc) (ho : OpT r P1 P2 P) : TyE X Ga e P Gc := fun q F σ G H I Q k => by
  refine ⟨_, mk, ha q F σ G H I _ fun x G1 H1 t1 I1 p1 => hc q F σ G1 H1 I1 _ fun y G2 H2 t2 I2 p2 => ?_⟩
  exact ho x y G2 H2 Q I2.sub (P1.mono t2.k p1) p2 fun z G3 H3 t3 p3 => k z G3 H3 ((t1.trans t2).trans t3.any) (I2.pure t3) p3
theorem e_op {op : Operator} {r : R2} (rule : ∀ i, OpR (X i) (binaryOp op) r) (ha : TyE X Ga a P1 Gb) (hc : TyE X Gb c P2 Gc) (ho : OpT r P1 P2 P) : TyE X Ga (.BinOp a op c pos) P Gc :=
  e_bin (fun i => pe_op (rule i) (uE_pe i) (uE_pe i)) ha hc ho
theorem e_cmp {op : CmpOp} {r : R2} (rule : ∀ i, OpR (X i) (compareOp op) r) (ha : TyE X Ga a P1 Gb) (hc : TyE X Gb c P2 Gc) (ho : OpT r P1 P2 P) (hm : behindInMarks op c = false := by first | exact nomark _ | rfl) : TyE X Ga (.Compare a [op] [c] pos) P Gc :=
  e_bin (fun i => pe_cmpR (rule i) (uE_pe i) (uE_pe i) hm) ha hc ho
theorem e_ix {r : R2} (rule : ∀ i, IxR (X i) r) (ha : TyE X Ga a P1 Gb) (hc : TyE X Gb c P2 Gc) (ho : OpT r P1 P2 P) (hs : PlainIx c := by exact fun _ _ => rfl) : TyE X Ga (.Subscript a c pos) P Gc :=
  e_bin (fun i => pe_ix (rule i) (uE_pe i) (uE_pe i) hs) ha hc ho
theorem e_unr {r : V → Hp → VK → Prop} (mk : ∀ i, PE (X i) e (tUn r (uE X a))) (ha : TyE X Ga a P1 Gb) (ho : UnT r P1 P) : TyE X Ga e P Gb := fun q F σ G H I Q k => by
  refine ⟨_, mk, ha q F σ G H I _ fun x G1 H1 t1 I1 p1 => ?_⟩
  exact ho x G1 H1 Q I1.sub p1 fun z G3 H3 t3 p3 => k z G3 H3 (t1.trans t3.any) (I1.pure t3) p3
theorem e_un {op : UnaryOp} {r : V → Hp → VK → Prop} (rule : ∀ i, UnR (X i) (unaryOp op) r) (ha : TyE X Ga a P1 Gb) (ho : UnT r P1 P) : TyE X Ga (.UnaryOp op a pos) P Gb :=
  e_unr (fun i => pe_un (rule i) (uE_pe i)) ha ho
/-! ### argument lists, displays, calls of built-ins -/
theorem a_nil : TyA X Ga [] [] Ga := fun q F σ G H I Q k => ⟨tNil, fun _ => pa_nil, k [] G H (Step.refl I.sub) I trivial⟩
theorem a_cons (h : TyE X Ga e P Gb) (hr : TyA X Gb es Ps Gc) (hs : ∀ i, starEach (e :: es) (X i).env = (false, eval e (X i).env) :: starEach es (X i).env := by intro i; rfl) : TyA X Ga (e :: es) (P :: Ps) Gc := fun q F σ G H I Q k => by
  refine ⟨tCons (uE X e) (uA X es), fun i => pa_cons (uE_pe i) (uA_pa i) (hs i), h q F σ G H I _ fun x G1 H1 t1 I1 p1 => ?_⟩
  refine hr q F σ G1 H1 I1 _ fun ys G2 H2 t2 I2 p2 => ?_
  exact k (x :: ys) G2 H2 (t1.trans t2) I2 ⟨P.mono t2.k p1, p2⟩
def Sq (Ps : List Pd) : Pd := ⟨fun v G => ∃ a xs, v = .ref a ∧ (G a = some (.lst xs) ∨ G a = some (.tup xs)) ∧ AllP Ps xs G, fun e ⟨a, xs, h1, h2, h3⟩ => ⟨a, xs, h1, h2.elim (fun h => .inl (e _ _ h)) fun h => .inr (e _ _ h), h3.mono e⟩⟩
theorem Ls.sq {v : V} {G : Hp} (h : (Ls Ps).p v G) : (Sq Ps).p v G := let ⟨a, xs, h1, h2, h3⟩ := h; ⟨a, xs, h1, .inl h2, h3⟩
theorem Tp.sq {v : V} {G : Hp} (h : (Tp Ps).p v G) : (Sq Ps).p v G := let ⟨a, xs, h1, h2, h3⟩ := h; ⟨a, xs, h1, .inr h2, h3⟩
theorem a_star {K : PySem.W.Frag} {sp : Pos} (hK : ∀ i, (X i).K = K) (h : TyE X Ga e (Sq Qs) Gb) (hr : TyA X Gb es Ps Gc) (hs : ∀ i, starEach (.Starred e sp :: es) (X i).env = (true, eval e (X i).env) :: starEach es (X i).env := by intro i; rfl) :
    TyA X Ga (.Starred e sp :: es) (Qs ++ Ps) Gc := fun q F σ G H I Q k => by
  refine ⟨StX.tStar K (uE X e) (uA X es), fun i => by rw [← hK i]; exact StX.pa_star (uE_pe i) (uA_pa i) (hs i), h q F σ G H I _ fun x G1 H1 t1 I1 p1 => ?_⟩
  obtain ⟨p, xs, e1, e2, e3⟩ := p1
  refine ⟨p, xs, e1, e2.elim (fun z => .inr (SqL.of (I1.sub _ _ z))) (fun z => .inl (SqT.of (I1.sub _ _ z))), ?_⟩
  refine hr q F σ G1 H1 I1 _ fun ys G2 H2 t2 I2 p2 => ?_
  exact k (xs ++ ys) G2 H2 (t1.trans t2) I2 ((e3.mono t2.k).append p2)
theorem e_lst (h : TyA X Ga es Ps Gb) (hz : Ps.length ≤ sizeLine) : TyE X Ga (.List es pos) (Ls Ps) Gb := fun q F σ G H I Q k => by
  refine ⟨tLst (uA X es), fun i => pe_lst (uA_pa i), h q F σ G H I _ fun xs G1 H1 t1 I1 p1 => ⟨by rw [p1.length]; exact hz, fun p hp => ?_⟩⟩
  have t2 : Step none G1 H1 (upd G1 p (.lst xs)) (upd H1 p (.lst xs)) := Step.new I1.sub hp
  exact k _ _ _ (t1.trans t2.any) (I1.pure t2) ⟨p, xs, rfl, upd_same, p1.mono t2.k⟩
theorem e_tup {x1} (h : TyA X Ga es Ps Gb) (hz : Ps.length ≤ sizeLine) : TyE X Ga (.Tuple es x1 pos) (Tp Ps) Gb := fun q F σ G H I Q k => by
  refine ⟨tTup (uA X es), fun i => pe_tup (uA_pa i), h q F σ G H I _ fun xs G1 H1 t1 I1 p1 => ⟨by rw [p1.length]; exact hz, fun p hp => ?_⟩⟩
  have t2 : Step none G1 H1 (upd G1 p (.tup xs)) (upd H1 p (.tup xs)) := Step.new I1.sub hp
  exact k _ _ _ (t1.trans t2.any) (I1.pure t2) ⟨p, xs, rfl, upd_same, p1.mono t2.k⟩
/-- an argument list, then a call that changes nothing -/
theorem e_args {r : List V → Hp → VK → Prop} (mk : ∀ i, PE (X i) e (fun σ H Q => uA X es σ H fun vs H1 => r vs H1 Q)) (ha : TyA X Ga es Ps Gb) (ho : CaT r Ps P) : TyE X Ga e P Gb := fun q F σ G H I Q k => by
  refine ⟨_, mk, ha q F σ G H I _ fun xs G1 H1 t1 I1 p1 => ?_⟩
  exact ho xs G1 H1 Q I1.sub p1 fun z G3 H3 t3 p3 => k z G3 H3 (t1.trans t3.any) (I1.pure t3) p3
theorem e_callB {x : Str} {id : String} {r : List V → Hp → VK → Prop} {p : Pos} (rule : ∀ i, CallR (X i) (.builtin id) r) (hg : ∀ i, Gl (X i) x) (hm : ∀ i, (X i).mg x = none) (hv : bootBuiltins x = some (.builtin id)) (ha : TyA X Ga (e :: es) Ps Gb) (ho : CaT r Ps P)
    (hn : x ≠ "__name__" := by decide) (hdb : (x == ("__debug__" : Str)) = false := by decide) (he : ∀ i, starEach (e :: es) (X i).env = (false, eval e (X i).env) :: starEach es (X i).env := by intro i; rfl) (hpl : ∀ i, (backTo pos (starEach es (X i).env)).any (·.1) = false := by intro i; rfl) :
    TyE X Ga (.Call (.Name x p) (e :: es) [] pos) P Gb :=
  e_args (fun i => pe_callB (rule i) (hg i) (hm i) hv (uA_pa i) hn hdb (he i) (hpl i)) ha ho
theorem e_callTy {x : Str} {T : String} {r : List V → Hp → VK → Prop} {p : Pos} (rule : ∀ i, CallR (X i) (.type T) r) (hg : ∀ i, Gl (X i) x) (hm : ∀ i, (X i).mg x = none) (hv : bootBuiltins x = some (.type T)) (ha : TyA X Ga (e :: es) Ps Gb) (ho : CaT r Ps P)
    (hn : x ≠ "__name__" := by decide) (hdb : (x == ("__debug__" : Str)) = false := by decide) (he : ∀ i, starEach (e :: es) (X i).env = (false, eval e (X i).env) :: starEach es (X i).env := by intro i; rfl) (hpl : ∀ i, (backTo pos (starEach es (X i).env)).any (·.1) = false := by intro i; rfl) :
    TyE X Ga (.Call (.Name x p) (e :: es) [] pos) P Gb :=
  e_args (fun i => pe_callTy (rule i) (hg i) (hm i) hv (uA_pa i) hn hdb (he i) (hpl i)) ha ho
/-- a method of a built-in type's object, arguments -/
theorem e_bm {o : Expr} {T : String} {name : Str} {id : String} {r : V → List V → Hp → VK → Prop} {apos cpos : Pos} {K : PySem.W.Frag} (hK : ∀ i, (X i).K = K) (mk : ∀ i, PE (X i) (.Call (.Attribute o name apos) es [] cpos) (tBM K T r (uE X o) (uA X es))) (ha : TyE X Ga o P1 Gb) (hr : TyA X Gb es Ps Gc)
    (ho : ∀ (x : V) (xs : List V) (G H : Hp) (Q : VK), Ex G H → P1.p x G → AllP Ps xs G → (∀ z G' H', Step none G H G' H' → P.p z G' → Q z H') → r x xs H Q) (ht : ∀ x G H, Ex G H → P1.p x G → tyV K T x H) : TyE X Ga (.Call (.Attribute o name apos) es [] cpos) P Gc := fun q F σ G H I Q k => by
  refine ⟨_, mk, ha q F σ G H I _ fun x G1 H1 t1 I1 p1 => ⟨ht x G1 H1 I1.sub p1, hr q F σ G1 H1 I1 _ fun xs G2 H2 t2 I2 p2 => ?_⟩⟩
  exact ho x xs G2 H2 Q I2.sub (P1.mono t2.k p1) p2 fun z G3 H3 t3 p3 => k z G3 H3 ((t1.trans t2).trans t3.any) (I2.pure t3) p3
/-! ### tests -/
theorem t_val {b : Bool} (h : TyE X Ga e (IsB b) Gb) (he : ∀ i whole, isTrue e (X i).env whole = (do let v ← whole; standAt e.pos; holding [v] (truthy v)) := by intro _ _; rfl) : TyT X Ga e b Gb := fun q F σ G H I Q k =>
  ⟨tB (uE X e), fun i => pt_val (uE_pe i) (he i), h q F σ G H I _ fun v G1 H1 t1 I1 p1 => ⟨b, p1, k G1 H1 t1 I1⟩⟩
theorem t_cmp {op : CmpOp} {r : R2} (rule : ∀ i, OpR (X i) (compareOp op) r) (ha : TyE X Ga a P1 Gb) (hc : TyE X Gb c P2 Gc) (ho : OpT r P1 P2 (IsB b)) (hm : behindInMarks op c = false := by first | exact nomark _ | rfl) : TyT X Ga (.Compare a [op] [c] pos) b Gc := fun q F σ G H I Q k => by
  refine ⟨tTest (tOp r (uE X a) (uE X c)), fun i => pt_cmpR (rule i) (uE_pe i) (uE_pe i) hm, ha q F σ G H I _ fun x G1 H1 t1 I1 p1 => hc q F σ G1 H1 I1 _ fun y G2 H2 t2 I2 p2 => ?_⟩
  exact ho x y G2 H2 _ I2.sub (P1.mono t2.k p1) p2 fun z G3 H3 t3 p3 => ⟨b, p3, k G3 H3 ((t1.trans t2).trans t3.any) (I2.pure t3)⟩
theorem t_not (h : TyT X Ga e b Gb) : TyT X Ga (.UnaryOp .Not e pos) (!b) Gb := fun q F σ G H I Q k =>
  ⟨tNot (uT X e), fun i => pt_not (uT_pt i), h q F σ G H I _ fun G1 H1 t1 I1 => k G1 H1 t1 I1⟩
/-- x < y < z, y asked once; the second comparison only where the first holds -/
theorem t_chain {op op' : CmpOp} {r r' : R2} (rule : ∀ i, OpR (X i) (compareOp op) r) (rule' : ∀ i, OpR (X i) (compareOp op') r') (ha : TyE X Ga a P1 Gb) (hc : TyE X Gb c P2 Gc) (hd : b1 = true → TyE X Gc d P3 Gd) (hw : b1 = false → GaLe Gc Gd) (ho : OpT r P1 P2 (IsB b1)) (ho' : b1 = true → OpT r' P2 P3 (IsB b2))
    (mk : ∀ i, PT (X i) (.Compare a [op, op'] [c, d] pos) (tTest (tChain r r' (uE X a) (uE X c) (uE X d)))) : TyT X Ga (.Compare a [op, op'] [c, d] pos) (b1 && b2) Gd := fun q F σ G H I Q k => by
  refine ⟨_, mk, ha q F σ G H I _ fun x G1 H1 t1 I1 p1 => hc q F σ G1 H1 I1 _ fun y G2 H2 t2 I2 p2 => ?_⟩
  refine ho x y G2 H2 _ I2.sub (P1.mono t2.k p1) p2 fun z G3 H3 t3 p3 => ⟨b1, p3, ?_⟩
  cases b1 with
  | true =>
    rw [if_pos rfl]
    refine hd rfl q F σ G3 H3 (I2.pure t3) _ fun w' G4 H4 t4 I4 p4 => ?_
    exact ho' rfl y w' G4 H4 _ I4.sub (P2.mono (Ex.trans t3.k t4.k) p2) p4 fun z' G5 H5 t5 p5 => ⟨b2, p5, k G5 H5 ((((t1.trans t2).trans t3.any).trans t4).trans t5.any) (I4.pure t5)⟩
  | false =>
    rw [if_neg Bool.false_ne_true]
    exact ⟨false, rfl, k G3 H3 ((t1.trans t2).trans t3.any) ((I2.pure t3).weak (hw rfl))⟩
theorem w_and1 (h : TyT X Ga e b Gb) : TyW X Ga (.BoolOp .And [e] pos) b Gb := fun q F σ G H I Q k => ⟨uT X e, fun i => pw_and1 (uT_pt i), h q F σ G H I _ k⟩
theorem w_or1 (h : TyT X Ga e b Gb) : TyW X Ga (.BoolOp .Or [e] pos) b Gb := fun q F σ G H I Q k => ⟨uT X e, fun i => pw_or1 (uT_pt i), h q F σ G H I _ k⟩
theorem w_and (h : TyT X Ga a b1 Gb) (h2 : b1 = true → TyW X Gb (.BoolOp .And (c :: es) pos) b2 Gc) (hw : b1 = false → GaLe Gb Gc) : TyW X Ga (.BoolOp .And (a :: c :: es) pos) (b1 && b2) Gc := fun q F σ G H I Q k => by
  refine ⟨tAnd (uT X a) (uW X (.BoolOp .And (c :: es) pos)), fun i => pw_and (uT_pt i) (uW_pw i), h q F σ G H I _ fun G1 H1 t1 I1 => ?_⟩
  cases b1 with
  | true => exact h2 rfl q F σ G1 H1 I1 Q fun G2 H2 t2 I2 => k G2 H2 (t1.trans t2) I2
  | false => exact k G1 H1 t1 (I1.weak (hw rfl))
theorem w_or (h : TyT X Ga a b1 Gb) (h2 : b1 = false → TyW X Gb (.BoolOp .Or (c :: es) pos) b2 Gc) (hw : b1 = true → GaLe Gb Gc) : TyW X Ga (.BoolOp .Or (a :: c :: es) pos) (b1 || b2) Gc := fun q F σ G H I Q k => by
  refine ⟨tOr (uT X a) (uW X (.BoolOp .Or (c :: es) pos)), fun i => pw_or (uT_pt i) (uW_pw i), h q F σ G H I _ fun G1 H1 t1 I1 => ?_⟩
  cases b1 with
  | false => exact h2 rfl q F σ G1 H1 I1 Q fun G2 H2 t2 I2 => k G2 H2 (t1.trans t2) I2
  | true => exact k G1 H1 t1 (I1.weak (hw rfl))
theorem t_w (h : TyW X Ga e b Gb) : TyT X Ga e b Gb := fun q F σ G H I Q k => ⟨uW X e, fun i => (uW_pw i).pt, h q F σ G H I Q k⟩
theorem TyT.eq (h : TyT X Ga e b Gb) (hb : b = b1) : TyT X Ga e b1 Gb := hb ▸ h
/-! ### and, or, not as values -/
theorem e_one {op : BoolOp} (h : TyE X Ga e P Gb) : TyE X Ga (.BoolOp op [e] pos) P Gb := fun q F σ G H I Q k => ⟨uE X e, fun i => pe_one (uE_pe i), h q F σ G H I Q k⟩
theorem e_and (h : TyE X Ga a (IsB b1) Gb) (h2 : b1 = true → TyE X Gb (.BoolOp .And (c :: es) pos) (IsB b2) Gc) (hw : b1 = false → GaLe Gb Gc) : TyE X Ga (.BoolOp .And (a :: c :: es) pos) (IsB (b1 && b2)) Gc := fun q F σ G H I Q k => by
  refine ⟨tAndV (uE X a) (uE X (.BoolOp .And (c :: es) pos)), fun i => pe_and (uE_pe i) (uE_pe i), h q F σ G H I _ fun v G1 H1 t1 I1 p1 => ⟨b1, p1, ?_⟩⟩
  cases b1 with
  | true => exact h2 rfl q F σ G1 H1 I1 Q fun v G2 H2 t2 I2 p2 => k v G2 H2 (t1.trans t2) I2 p2
  | false => exact k _ G1 H1 t1 (I1.weak (hw rfl)) rfl
theorem e_or (h : TyE X Ga a (IsB b1) Gb) (h2 : b1 = false → TyE X Gb (.BoolOp .Or (c :: es) pos) (IsB b2) Gc) (hw : b1 = true → GaLe Gb Gc) : TyE X Ga (.BoolOp .Or (a :: c :: es) pos) (IsB (b1 || b2)) Gc := fun q F σ G H I Q k => by
  refine ⟨tOrV (uE X a) (uE X (.BoolOp .Or (c :: es) pos)), fun i => pe_or (uE_pe i) (uE_pe i), h q F σ G H I _ fun v G1 H1 t1 I1 p1 => ⟨b1, p1, ?_⟩⟩
  cases b1 with
  | false => exact h2 rfl q F σ G1 H1 I1 Q fun v G2 H2 t2 I2 p2 => k v G2 H2 (t1.trans t2) I2 p2
  | true => exact k _ G1 H1 t1 (I1.weak (hw rfl)) rfl
theorem e_not (h : TyE X Ga e (IsB b) Gb) : TyE X Ga (.UnaryOp .Not e pos) (IsB (!b)) Gb := fun q F σ G H I Q k =>
  ⟨tNotV (uE X e), fun i => pe_not (uE_pe i), h q F σ G H I _ fun v G1 H1 t1 I1 p1 => ⟨b, p1, k _ G1 H1 t1 I1 rfl⟩⟩
theorem e_if (h : TyT X Ga c b Gb) (h1 : b = true → TyE X Gb a P Gc) (h2 : b = false → TyE X Gb d P Gc) : TyE X Ga (.IfExp c a d pos) P Gc := fun q F σ G H I Q k => by
  refine ⟨tIf (uT X c) (uE X a) (uE X d), fun i => pe_ifExp (uT_pt i) (uE_pe i) (uE_pe i), h q F σ G H I _ fun G1 H1 t1 I1 => ?_⟩
  cases b with
  | true => exact h1 rfl q F σ G1 H1 I1 Q fun v G2 H2 t2 I2 p2 => k v G2 H2 (t1.trans t2) I2 p2
  | false => exact h2 rfl q F σ G1 H1 I1 Q fun v G2 H2 t2 I2 p2 => k v G2 H2 (t1.trans t2) I2 p2
/-! ### targets, what is walked -/
theorem g_name {i : Nat} {x : Str} (hg : ∀ j, PG (X j) (.Name x pos) (gName i)) : TyG X Ga P (.Name x pos) [i] (Ga.set i (.is P)) := fun q F σ G H v I p Q k =>
  ⟨gName i, hg, k _ G H (Step.refl I.sub) ⟨List.length_set, fun j hj => List.getElem?_set_ne (fun e => hj (by rw [e]; exact List.mem_singleton.mpr rfl))⟩ (I.put p)⟩
/-- a pair into two names -/
theorem g_two {i j : Nat} {K : PySem.W.Frag} {x y : Str} {px py : Pos} {kk : Nat} (hK : ∀ i, (X i).K = K) (hg : ∀ l, PG (X l) (.Tuple [.Name x px, .Name y py] kk pos) (gTup (X l).K 2 (gCons (gName i) (gCons (gName j) gNil)))) :
    TyG X Ga (Tp [P1, P2]) (.Tuple [.Name x px, .Name y py] kk pos) [i, j] ((Ga.set i (.is P1)).set j (.is P2)) := fun q F σ G H v I p Q k => by
  obtain ⟨t, xs, e1, e2, e3⟩ := p
  match xs, e3 with
  | [u, w], ⟨p1, p2, _⟩ =>
    refine ⟨gTup K 2 (gCons (gName i) (gCons (gName j) gNil)), fun l => by rw [← hK l]; exact hg l, t, [u, w], e1, SqT.of (I.sub _ _ e2), rfl, u, [w], rfl, w, [], rfl, rfl, ?_⟩
    refine k _ G H (Step.refl I.sub) ⟨by rw [List.length_set, List.length_set], fun l hl => ?_⟩ ((I.put p1).put p2)
    rw [List.getElem?_set_ne (fun e => hl (by rw [← e]; simp)), List.getElem?_set_ne (fun e => hl (by rw [← e]; simp))]
theorem walk_list {K : PySem.W.Frag} {a : Addr} {xs : List V} {G0 : Hp} (h : G0 a = some (.lst xs)) (hp : AllP Ps xs G0) : WalkT (Itl K a) Ps G0 := by
  refine ⟨fun i G H e1 e2 hl => ?_, fun G H e1 e2 => ⟨xs, SqL.of (e2 _ _ (e1 _ _ h)), by rw [hp.length]; exact Nat.le_refl _⟩, fun i P G H x H' e1 e2 hP y => ?_⟩
  · have hl' : i < xs.length := by rw [hp.length]; exact hl
    exact ⟨xs, xs[i], SqL.of (e2 _ _ (e1 _ _ h)), by simp [hl']⟩
  · obtain ⟨rfl, y⟩ := y
    have hx := y xs (SqL.of (e2 _ _ (e1 _ _ h)))
    obtain ⟨v, hv, p⟩ := hp.get hP
    rw [hx] at hv; cases hv
    exact ⟨G, Step.refl e2, P.mono e1 p⟩
theorem walk_tup {K : PySem.W.Frag} {a : Addr} {xs : List V} {G0 : Hp} (h : G0 a = some (.tup xs)) (hp : AllP Ps xs G0) : WalkT (Itt K a) Ps G0 := by
  refine ⟨fun i G H e1 e2 hl => ?_, fun G H e1 e2 => ⟨xs, SqT.of (e2 _ _ (e1 _ _ h)), by rw [hp.length]; exact Nat.le_refl _⟩, fun i P G H x H' e1 e2 hP y => ?_⟩
  · have hl' : i < xs.length := by rw [hp.length]; exact hl
    exact ⟨xs, xs[i], SqT.of (e2 _ _ (e1 _ _ h)), by simp [hl']⟩
  · obtain ⟨rfl, y⟩ := y
    have hx := y xs (SqT.of (e2 _ _ (e1 _ _ h)))
    obtain ⟨v, hv, p⟩ := hp.get hP
    rw [hx] at hv; cases hv
    exact ⟨G, Step.refl e2, P.mono e1 p⟩
/-- lo, lo + 1, .. -/
def rgP (lo : Int) (m : Nat) : List Pd := (List.range m).map fun (i : Nat) => IsI (lo + (i : Int))
theorem walk_rng {lo : Int} {m : Nat} {G0 : Hp} : WalkT (Itr lo m) (rgP lo m) G0 := by
  refine ⟨fun i G H e1 e2 hl => ?_, fun G H e1 e2 => ?_, fun i P G H x H' e1 e2 hP y => ?_⟩
  · show i < m
    unfold rgP at hl
    simpa using hl
  · show m ≤ _
    unfold rgP
    simp
  · obtain ⟨rfl, rfl⟩ := y
    unfold rgP at hP
    rw [List.getElem?_map] at hP
    have hi : i < m := by
      cases c : (List.range m)[i]? with
      | none => rw [c] at hP; cases hP
      | some z =>
        have := (List.getElem?_eq_some_iff.mp c).1
        simpa using this
    rw [List.getElem?_range hi] at hP
    cases hP
    exact ⟨G, Step.refl e2, rfl⟩
theorem i_list {K : PySem.W.Frag} (hK : ∀ i, (X i).K = K) (h : TyE X Ga e (Ls Ps) Gb) : TyI X Ga tg e Ps Gb := fun q F σ G H I R k => by
  refine ⟨iList K (uE X e), fun i => by rw [← hK i]; exact pi_list (uE_pe i), h q F σ G H I _ fun v G1 H1 t1 I1 p1 => ?_⟩
  obtain ⟨a, xs, e1, e2, e3⟩ := p1
  exact ⟨a, e1, ⟨xs, SqL.of (I1.sub _ _ e2)⟩, k _ G1 H1 t1 I1 (walk_list e2 e3)⟩
theorem i_tup {K : PySem.W.Frag} (hK : ∀ i, (X i).K = K) (h : TyE X Ga e (Tp Ps) Gb) : TyI X Ga tg e Ps Gb := fun q F σ G H I R k => by
  refine ⟨iTup K (uE X e), fun i => by rw [← hK i]; exact pi_tup (uE_pe i), h q F σ G H I _ fun v G1 H1 t1 I1 p1 => ?_⟩
  obtain ⟨a, xs, e1, e2, e3⟩ := p1
  exact ⟨a, e1, ⟨xs, SqT.of (I1.sub _ _ e2)⟩, k _ G1 H1 t1 I1 (walk_tup e2 e3)⟩
theorem i_range1 {j : Int} {p : Pos} (hg : ∀ i, Gl (X i) "range") (hm : ∀ i, (X i).mg "range" = none) (h : TyA X Ga [e] [IsI j] Gb) (h1 : -(2 ^ 62) ≤ j) (h2 : j < 2 ^ 62) (hs : ∀ i, starEach [e] (X i).env = [(false, eval e (X i).env)] := by intro i; rfl) :
    TyI X Ga tg (.Call (.Name "range" p) [e] [] pos) (rgP 0 j.toNat) Gb := fun q F σ G H I R k => by
  refine ⟨iRng1 (uA X [e]), fun i => pi_range1 (hg i) (hm i) (uA_pa i) (hs i), h q F σ G H I _ fun vs G1 H1 t1 I1 p1 => ?_⟩
  match vs, p1 with
  | [v], ⟨p1, _⟩ => exact ⟨j, by rw [show v = .int j from p1], h1, h2, k _ G1 H1 t1 I1 walk_rng⟩
theorem i_range2 {j l : Int} {p : Pos} (hg : ∀ i, Gl (X i) "range") (hm : ∀ i, (X i).mg "range" = none) (h : TyA X Ga [a, c] [IsI j, IsI l] Gb) (h1 : -(2 ^ 62) ≤ j ∧ j < 2 ^ 62 ∧ -(2 ^ 62) ≤ l ∧ l < 2 ^ 62)
    (hs : ∀ i, starEach [a, c] (X i).env = [(false, eval a (X i).env), (false, eval c (X i).env)] := by intro i; rfl) (hs2 : ∀ i, starEach [c] (X i).env = [(false, eval c (X i).env)] := by intro i; rfl) :
    TyI X Ga tg (.Call (.Name "range" p) [a, c] [] pos) (rgP j (l - j).toNat) Gb := fun q F σ G H I R k => by
  refine ⟨iRng2 (uA X [a, c]), fun i => pi_range2 (hg i) (hm i) (uA_pa i) (hs i) (hs2 i), h q F σ G H I _ fun vs G1 H1 t1 I1 p1 => ?_⟩
  match vs, p1 with
  | [v, w], ⟨p1, p2, _⟩ => exact ⟨j, l, by rw [show v = .int j from p1, show w = .int l from p2], h1, k _ G1 H1 t1 I1 walk_rng⟩
end
end Ty
end
section
/-! Blocks, calls, comprehensions over the typed layer. -/
namespace Ty
open PySem PySem.Spec PyProof.Rows L2
open Evl (Ex)

/-! ### more of the state -/
section
variable {q : Option Addr} {F F' : Addr → Prop} {Ga Gb : List Sl} {σ σ' : L2.St} {G H G' H' : Hp} {i : Nat} {P : Pd} {M M' : Mo} {v : V} {p : Addr} {o : HO}
theorem SI.monoF (h : SI q F' Ga σ G H) (hF : ∀ a, F' a → F a) : SI q F Ga σ G H := by
  obtain ⟨ad, h⟩ := h
  refine ⟨ad, h.sub, h.len, fun i s e => ?_, h.ne, h.qt⟩
  have k := h.ok i s e
  cases s with
  | any => trivial
  | is P => exact k
  | mu M => obtain ⟨e, nq, f, r⟩ := k; exact ⟨e, nq, hF _ f, r⟩
  | own M => exact k
  | gh b M => obtain ⟨e, nq, f, r⟩ := k; exact ⟨e, nq, hF _ f, r⟩
/-- away from a new address -/
theorem SI.apart (h : SI q F Ga σ G H) (hp : H p = none) : SI q (fun a => F a ∧ a ≠ p) Ga σ G H ∧ q ≠ some p := by
  obtain ⟨ad, h⟩ := h
  refine ⟨⟨ad, h.sub, h.len, fun i s e => ?_, h.ne, h.qt⟩, fun e => ?_⟩
  · have k := h.ok i s e
    cases s with
    | any => trivial
    | is P => exact k
    | mu M => obtain ⟨e, nq, f, g, o, ho, m⟩ := k; exact ⟨e, nq, ⟨f, fun z => by rw [z, hp] at ho; cases ho⟩, g, o, ho, m⟩
    | own M => exact k
    | gh b M => obtain ⟨e, nq, f, g, o, ho, m⟩ := k; exact ⟨e, nq, ⟨f, fun z => by rw [z, hp] at ho; cases ho⟩, g, o, ho, m⟩
  · obtain ⟨_, o, ho⟩ := h.qt p e
    rw [hp] at ho; cases ho
/-- a new object comes to be known -/
theorem SI.know (h : SI q (fun a => F a ∧ a ≠ p) Ga σ G H) (hq : q ≠ some p) (hg : G p = none) (ho : H p = some o) : SI q F Ga σ (upd G p o) H := by
  obtain ⟨ad, h⟩ := h
  have ex : Ex G (upd G p o) := Evl.Ex.new hg
  have sub : Ex (upd G p o) H := fun a u e => by
    by_cases c : a = p
    · subst c; rw [upd_same] at e; cases e; exact ho
    · rw [upd_ne c] at e; exact h.sub a u e
  refine ⟨ad, sub, h.len, fun i s e => ?_, h.ne, fun a e => ?_⟩
  · have k := h.ok i s e
    cases s with
    | any => trivial
    | is P => obtain ⟨v, e, k⟩ := k; exact ⟨v, e, P.mono ex k⟩
    | mu M => obtain ⟨e, nq, f, g, o, ho, m⟩ := k; exact ⟨e, nq, f.1, by rw [upd_ne f.2]; exact g, o, ho, M.mono ex m⟩
    | gh b M => obtain ⟨e, nq, f, g, o, ho, m⟩ := k; exact ⟨e, nq, f.1, by rw [upd_ne f.2]; exact g, o, ho, M.mono ex m⟩
    | own M => obtain ⟨e, eq, g, o, ho, m⟩ := k; exact ⟨e, eq, by rw [upd_ne (fun z => hq (by rw [eq, z]))]; exact g, o, ho, M.mono ex m⟩
  · obtain ⟨g, o', e'⟩ := h.qt a e
    exact ⟨by rw [upd_ne (fun z => hq (by rw [e, z]))]; exact g, o', e'⟩
theorem Step.know {G0 H0 : Hp} (t : Step q G0 H0 G H) (hp : H0 p = none) (hg : G p = none) (ho : H p = some o) : Step q G0 H0 (upd G p o) H := by
  refine ⟨Ex.trans t.k (Evl.Ex.new hg), fun a u e => ?_, t.f, fun a u e => ?_, t.r⟩
  · by_cases c : a = p
    · subst c; rw [upd_same] at e; cases e; exact ho
    · rw [upd_ne c] at e; exact t.s a u e
  · by_cases c : a = p
    · subst c; exact .inr hp
    · rw [upd_ne c] at e; exact t.n a u e
/-- a slot is filled by an object that may change -/
theorem SI.putM (h : SI q (fun a => F a ∧ a ≠ p) Ga σ G H) (hq : q ≠ some p) (hF : F p) (hg : G p = none) (ho : H p = some o) (m : M.m o G) : SI q F (Ga.set i (.mu M)) (σ.set i (some (.ref p))) G H := by
  obtain ⟨ad, h⟩ := h
  refine ⟨fun j => if j = i then p else ad j, h.sub, by rw [List.length_set, List.length_set]; exact h.len, fun j s e => ?_, fun j k s t hn e1 e2 m1 m2 => ?_, h.qt⟩
  · by_cases c : j = i
    · subst c
      have hl : j < Ga.length := by
        have := (List.getElem?_eq_some_iff.mp e).1
        rwa [List.length_set] at this
      rw [List.getElem?_set_self hl] at e
      cases e
      rw [if_pos rfl, List.getElem?_set_self (by rw [h.len]; exact hl)]
      exact ⟨rfl, hq, hF, hg, o, ho, m⟩
    · rw [List.getElem?_set_ne (Ne.symm c)] at e ⊢
      rw [if_neg c]
      have k := h.ok j s e
      cases s with
      | any => trivial
      | is P => exact k
      | mu M => obtain ⟨e, nq, f, r⟩ := k; exact ⟨e, nq, f.1, r⟩
      | own M => exact k
      | gh b M => obtain ⟨e, nq, f, r⟩ := k; exact ⟨e, nq, f.1, r⟩
  · have key : ∀ (x : Nat) (y : Sl), x ≠ i → (Ga.set i (.mu M))[x]? = some y → y.mut → Ga[x]? = some y ∧ ad x ≠ p := fun x y hx e m => by
      rw [List.getElem?_set_ne (Ne.symm hx)] at e
      refine ⟨e, fun z => ?_⟩
      have k := h.ok x y e
      cases y with
      | any => exact m
      | is P => exact m
      | mu M => exact k.2.2.1.2 z
      | own M => exact hq (by rw [k.2.1, z])
      | gh b M => exact k.2.2.1.2 z
    show (if j = i then p else ad j) ≠ (if k = i then p else ad k)
    by_cases c1 : j = i
    · rw [if_pos c1, if_neg (fun z => hn (by rw [c1, z]))]
      exact (key k t (fun z => hn (by rw [c1, z])) e2 m2).2.symm
    · rw [if_neg c1]
      by_cases c2 : k = i
      · rw [if_pos c2]; exact (key j s c1 e1 m1).2
      · rw [if_neg c2]; exact h.ne j k s t hn (key j s c1 e1 m1).1 (key k t c2 e2 m2).1 m1 m2
/-- what stands in a slot that may change -/
theorem SI.getM (h : SI q F Ga σ G H) (e : Ga[i]? = some (.mu M)) : ∃ a o, σ[i]? = some (some (.ref a)) ∧ q ≠ some a ∧ F a ∧ G a = none ∧ H a = some o ∧ M.m o G := by
  obtain ⟨ad, h⟩ := h
  obtain ⟨e, nq, f, g, o, ho, m⟩ := h.ok i _ e
  exact ⟨ad i, o, e, nq, f, g, ho, m⟩
theorem SI.getO (h : SI q F Ga σ G H) (e : Ga[i]? = some (.own M)) : ∃ a o, σ[i]? = some (some (.ref a)) ∧ q = some a ∧ G a = none ∧ H a = some o ∧ M.m o G := by
  obtain ⟨ad, h⟩ := h
  obtain ⟨e, nq, g, o, ho, m⟩ := h.ok i _ e
  exact ⟨ad i, o, e, nq, g, ho, m⟩
/-- the object in a slot has changed -/
theorem SI.chg {s : Sl} (h : SI q F Ga σ G H) {a : Addr} (e : Ga[i]? = some s) (hm : s.mut) (ea : σ[i]? = some (some (.ref a))) {t : Sl} (ht : (s = .mu M ∧ t = .mu M') ∨ (s = .own M ∧ t = .own M')) (m : M'.m o G) : SI q F (Ga.set i t) σ G (upd H a o) := by
  obtain ⟨ad, h⟩ := h
  have k := h.ok i s e
  have ead : a = ad i ∧ G a = none ∧ (∃ u, H a = some u) := by
    rcases ht with ⟨rfl, _⟩ | ⟨rfl, _⟩
    · obtain ⟨e1, _, _, g, u, hu, _⟩ := k
      rw [ea] at e1; cases e1
      exact ⟨rfl, g, u, hu⟩
    · obtain ⟨e1, _, g, u, hu, _⟩ := k
      rw [ea] at e1; cases e1
      exact ⟨rfl, g, u, hu⟩
  obtain ⟨ead, ga, ha⟩ := ead
  have hl : i < Ga.length := (List.getElem?_eq_some_iff.mp e).1
  have tm : t.mut := by rcases ht with ⟨_, rfl⟩ | ⟨_, rfl⟩ <;> trivial
  refine ⟨ad, fun b u eb => ?_, by rw [List.length_set]; exact h.len, fun j s' e' => ?_, fun j l s1 t1 hn e1 e2 m1 m2 => ?_, fun b eb => ?_⟩
  · rw [upd_ne (fun z => by rw [z, ga] at eb; cases eb)]; exact h.sub b u eb
  · by_cases c : i = j
    · subst c
      rw [List.getElem?_set_self hl] at e'
      cases e'
      rcases ht with ⟨rfl, rfl⟩ | ⟨rfl, rfl⟩
      · obtain ⟨e1, nq, f, g, _⟩ := k
        exact ⟨e1, nq, f, g, o, by rw [← ead]; exact upd_same, m⟩
      · obtain ⟨e1, nq, g, _⟩ := k
        exact ⟨e1, nq, g, o, by rw [← ead]; exact upd_same, m⟩
    · rw [List.getElem?_set_ne c] at e'
      have k' := h.ok j s' e'
      have nea : s'.mut → ad j ≠ a := fun m' => by rw [ead]; exact h.ne j i s' s (Ne.symm c) e' e m' hm
      cases s' with
      | any => trivial
      | is P => exact k'
      | mu M1 => obtain ⟨e1, nq, f, g, u, hu, mm⟩ := k'; exact ⟨e1, nq, f, g, u, by rw [upd_ne (nea trivial)]; exact hu, mm⟩
      | gh b1 M1 => obtain ⟨e1, nq, f, g, u, hu, mm⟩ := k'; exact ⟨e1, nq, f, g, u, by rw [upd_ne (nea trivial)]; exact hu, mm⟩
      | own M1 => obtain ⟨e1, nq, g, u, hu, mm⟩ := k'; exact ⟨e1, nq, g, u, by rw [upd_ne (nea trivial)]; exact hu, mm⟩
  · have key : ∀ (x : Nat) (y : Sl), (Ga.set i t)[x]? = some y → y.mut → ∃ y', Ga[x]? = some y' ∧ y'.mut := fun x y e m => by
      by_cases c : i = x
      · subst c; exact ⟨s, ‹_›, hm⟩
      · rw [List.getElem?_set_ne c] at e; exact ⟨y, e, m⟩
    obtain ⟨s2, k1, k2⟩ := key j s1 e1 m1
    obtain ⟨t2, k3, k4⟩ := key l t1 e2 m2
    exact h.ne j l s2 t2 hn k1 k3 k2 k4
  · obtain ⟨g, u, hu⟩ := h.qt b eb
    refine ⟨g, ?_⟩
    by_cases c : b = a
    · subst c; exact ⟨o, upd_same⟩
    · exact ⟨u, by rw [upd_ne c]; exact hu⟩
/-- the object in a slot becomes known -/
theorem SI.freeze {a : Addr} (h : SI q F Ga σ G H) (e : Ga[i]? = some (.mu M)) (ea : σ[i]? = some (some (.ref a))) (ho : H a = some o) (hp : P.p (.ref a) (upd G a o)) : SI q F (Ga.set i (.is P)) σ (upd G a o) H := by
  obtain ⟨ad, h⟩ := h
  obtain ⟨e1, nq, f, g, u, hu, mm⟩ := h.ok i _ e
  rw [ea] at e1
  cases e1
  have hl : i < Ga.length := (List.getElem?_eq_some_iff.mp e).1
  have ex : Ex G (upd G (ad i) o) := Evl.Ex.new g
  refine ⟨ad, fun b u eb => ?_, by rw [List.length_set]; exact h.len, fun j s' e' => ?_, fun j l s1 t1 hn e1 e2 m1 m2 => ?_, fun b eb => ?_⟩
  · by_cases c : b = ad i
    · subst c; rw [upd_same] at eb; cases eb; exact ho
    · rw [upd_ne c] at eb; exact h.sub b u eb
  · by_cases c : i = j
    · subst c
      rw [List.getElem?_set_self hl] at e'
      cases e'
      exact ⟨_, ea, hp⟩
    · rw [List.getElem?_set_ne c] at e'
      have k' := h.ok j s' e'
      have nea : s'.mut → ad j ≠ ad i := fun m' => h.ne j i s' _ (Ne.symm c) e' e m' trivial
      cases s' with
      | any => trivial
      | is P => obtain ⟨v, e, k⟩ := k'; exact ⟨v, e, P.mono ex k⟩
      | mu M1 => obtain ⟨e1, nq, f, g, u, hu, mm⟩ := k'; exact ⟨e1, nq, f, by rw [upd_ne (nea trivial)]; exact g, u, hu, M1.mono ex mm⟩
      | gh b1 M1 => obtain ⟨e1, nq, f, g, u, hu, mm⟩ := k'; exact ⟨e1, nq, f, by rw [upd_ne (nea trivial)]; exact g, u, hu, M1.mono ex mm⟩
      | own M1 => obtain ⟨e1, nq, g, u, hu, mm⟩ := k'; exact ⟨e1, nq, by rw [upd_ne (nea trivial)]; exact g, u, hu, M1.mono ex mm⟩
  · have key : ∀ (x : Nat) (y : Sl), (Ga.set i (.is P))[x]? = some y → y.mut → Ga[x]? = some y := fun x y e m => by
      by_cases c : i = x
      · subst c; rw [List.getElem?_set_self hl] at e; cases e; exact m.elim
      · rwa [List.getElem?_set_ne c] at e
    exact h.ne j l s1 t1 hn (key _ _ e1 m1) (key _ _ e2 m2) m1 m2
  · obtain ⟨g', u, hu⟩ := h.qt b eb
    exact ⟨by rw [upd_ne (fun z => nq (by rw [eb, z]))]; exact g', u, hu⟩
end
/-! ### objects that are changed and have no name -/
section
variable {q : Option Addr} {F : Addr → Prop} {Ga : List Sl} {σ : L2.St} {G H : Hp} {i : Nat} {M M' : Mo} {o : HO} {d p : Addr} {P : Pd}
theorem SI.getG (h : SI q F Ga σ G H) (e : Ga[i]? = some (.gh d M)) : ∃ o, q ≠ some d ∧ F d ∧ G d = none ∧ H d = some o ∧ M.m o G := by
  obtain ⟨ad, h⟩ := h
  obtain ⟨e, nq, f, g, o, ho, m⟩ := h.ok i _ e
  subst e
  exact ⟨o, nq, f, g, ho, m⟩
theorem SI.chgG (h : SI q F Ga σ G H) (e : Ga[i]? = some (.gh d M)) (m : M'.m o G) : SI q F (Ga.set i (.gh d M')) σ G (upd H d o) := by
  obtain ⟨ad, h⟩ := h
  obtain ⟨ed, nqd, fd, gd, ou, hud, _⟩ := h.ok i _ e
  have hl : i < Ga.length := (List.getElem?_eq_some_iff.mp e).1
  refine ⟨ad, fun b u eb => ?_, by rw [List.length_set]; exact h.len, fun j s e' => ?_, fun j l s1 t1 hn e1 e2 m1 m2 => ?_, fun b eb => ?_⟩
  · rw [upd_ne (fun z => by rw [z, ed, gd] at eb; cases eb)]; exact h.sub b u eb
  · by_cases c : i = j
    · subst c
      rw [List.getElem?_set_self hl] at e'
      cases e'
      exact ⟨ed, nqd, fd, gd, o, by rw [← ed]; exact upd_same, m⟩
    · rw [List.getElem?_set_ne c] at e'
      have k' := h.ok j s e'
      have nea : s.mut → ad j ≠ d := fun m' => by rw [ed]; exact h.ne j i s _ (Ne.symm c) e' e m' trivial
      cases s with
      | any => trivial
      | is P => exact k'
      | mu M1 => obtain ⟨x1, x2, x3, x4, u, hu, mm⟩ := k'; exact ⟨x1, x2, x3, x4, u, (upd_ne (nea trivial)).trans hu, mm⟩
      | own M1 => obtain ⟨x1, x2, x4, u, hu, mm⟩ := k'; exact ⟨x1, x2, x4, u, (upd_ne (nea trivial)).trans hu, mm⟩
      | gh b1 M1 => obtain ⟨x1, x2, x3, x4, u, hu, mm⟩ := k'; exact ⟨x1, x2, x3, x4, u, (upd_ne (nea trivial)).trans hu, mm⟩
  · have key : ∀ (x : Nat) (y : Sl), (Ga.set i (.gh d M'))[x]? = some y → y.mut → ∃ y', Ga[x]? = some y' ∧ y'.mut := fun x y ey my => by
      by_cases c : i = x
      · subst c; exact ⟨_, e, trivial⟩
      · rw [List.getElem?_set_ne c] at ey; exact ⟨y, ey, my⟩
    obtain ⟨s2, k1, k2⟩ := key j s1 e1 m1
    obtain ⟨t2, k3, k4⟩ := key l t1 e2 m2
    exact h.ne j l s2 t2 hn k1 k3 k2 k4
  · obtain ⟨g, u, hu⟩ := h.qt b eb
    exact ⟨g, u, (upd_ne (fun z => nqd (by rw [← ed, eb, z]))).trans hu⟩
/-- it becomes known -/
theorem SI.freezeG (h : SI q F Ga σ G H) (e : Ga[i]? = some (.gh d M)) (ho : H d = some o) : SI q F (Ga.set i .any) σ (upd G d o) H := by
  obtain ⟨ad, h⟩ := h
  obtain ⟨ed, nqd, fd, gd, ou, hud, _⟩ := h.ok i _ e
  rw [← ed] at nqd fd gd hud
  have hl : i < Ga.length := (List.getElem?_eq_some_iff.mp e).1
  have ex : Ex G (upd G d o) := Evl.Ex.new gd
  refine ⟨ad, fun b u eb => ?_, by rw [List.length_set]; exact h.len, fun j s' e' => ?_, fun j l s1 t1 hn e1 e2 m1 m2 => ?_, fun b eb => ?_⟩
  · by_cases c : b = d
    · subst c; rw [upd_same] at eb; cases eb; exact ho
    · rw [upd_ne c] at eb; exact h.sub b u eb
  · by_cases c : i = j
    · subst c
      rw [List.getElem?_set_self hl] at e'
      cases e'
      trivial
    · rw [List.getElem?_set_ne c] at e'
      have k' := h.ok j s' e'
      have nea : s'.mut → ad j ≠ d := fun m' => by rw [ed]; exact h.ne j i s' _ (Ne.symm c) e' e m' trivial
      cases s' with
      | any => trivial
      | is P => obtain ⟨v, x1, k⟩ := k'; exact ⟨v, x1, P.mono ex k⟩
      | mu M1 => obtain ⟨x1, x2, x3, x4, u, hu, mm⟩ := k'; exact ⟨x1, x2, x3, (upd_ne (nea trivial)).trans x4, u, hu, M1.mono ex mm⟩
      | own M1 => obtain ⟨x1, x2, x4, u, hu, mm⟩ := k'; exact ⟨x1, x2, (upd_ne (nea trivial)).trans x4, u, hu, M1.mono ex mm⟩
      | gh b1 M1 => obtain ⟨x1, x2, x3, x4, u, hu, mm⟩ := k'; exact ⟨x1, x2, x3, (upd_ne (nea trivial)).trans x4, u, hu, M1.mono ex mm⟩
  · have key : ∀ (x : Nat) (y : Sl), (Ga.set i .any)[x]? = some y → y.mut → Ga[x]? = some y := fun x y ey my => by
      by_cases c : i = x
      · subst c; rw [List.getElem?_set_self hl] at ey; cases ey; exact my.elim
      · rwa [List.getElem?_set_ne c] at ey
    exact h.ne j l s1 t1 hn (key _ _ e1 m1) (key _ _ e2 m2) m1 m2
  · obtain ⟨g', u, hu⟩ := h.qt b eb
    exact ⟨(upd_ne (fun z => nqd (by rw [eb, z]))).trans g', u, hu⟩
/-- a new object of the kind, in a slot whose value is not asked for -/
theorem SI.putG (h : SI q (fun a => F a ∧ a ≠ p) Ga σ G H) (hq : q ≠ some p) (hF : F p) (hg : G p = none) (ho : H p = some o) (m : M.m o G) : SI q F (Ga.set i (.gh p M)) σ G H := by
  obtain ⟨ad, h⟩ := h
  refine ⟨fun j => if j = i then p else ad j, h.sub, by rw [List.length_set]; exact h.len, fun j s e => ?_, fun j k s t hn e1 e2 m1 m2 => ?_, h.qt⟩
  · by_cases c : j = i
    · subst c
      have hl : j < Ga.length := by
        have := (List.getElem?_eq_some_iff.mp e).1
        rwa [List.length_set] at this
      rw [List.getElem?_set_self hl] at e
      cases e
      rw [if_pos rfl]
      exact ⟨rfl, hq, hF, hg, o, ho, m⟩
    · rw [List.getElem?_set_ne (Ne.symm c)] at e
      rw [if_neg c]
      have k := h.ok j s e
      cases s with
      | any => trivial
      | is P => exact k
      | mu M => obtain ⟨x1, x2, x3, r⟩ := k; exact ⟨x1, x2, x3.1, r⟩
      | own M => exact k
      | gh b M => obtain ⟨x1, x2, x3, r⟩ := k; exact ⟨x1, x2, x3.1, r⟩
  · have key : ∀ (x : Nat) (y : Sl), x ≠ i → (Ga.set i (.gh p M))[x]? = some y → y.mut → Ga[x]? = some y ∧ ad x ≠ p := fun x y hx e m => by
      rw [List.getElem?_set_ne (Ne.symm hx)] at e
      refine ⟨e, fun z => ?_⟩
      have k := h.ok x y e
      cases y with
      | any => exact m
      | is P => exact m
      | mu M => exact k.2.2.1.2 z
      | own M => exact hq (by rw [k.2.1, z])
      | gh b M => exact k.2.2.1.2 z
    show (if j = i then p else ad j) ≠ (if k = i then p else ad k)
    by_cases c1 : j = i
    · rw [if_pos c1, if_neg (fun z => hn (by rw [c1, z]))]
      exact (key k t (fun z => hn (by rw [c1, z])) e2 m2).2.symm
    · rw [if_neg c1]
      by_cases c2 : k = i
      · rw [if_pos c2]; exact (key j s c1 e1 m1).2
      · rw [if_neg c2]; exact h.ne j k s t hn (key j s c1 e1 m1).1 (key k t c2 e2 m2).1 m1 m2
/-- it is known by another slot -/
theorem SI.moveG {j : Nat} (h : SI q F Ga σ G H) (e : Ga[i]? = some (.gh d M)) : SI q F ((Ga.set i .any).set j (.gh d M)) σ G H := by
  obtain ⟨ad, h⟩ := h
  have k0 := h.ok i _ e
  have hl : i < Ga.length := (List.getElem?_eq_some_iff.mp e).1
  have far : ∀ (x : Nat) (y : Sl), x ≠ j → ((Ga.set i .any).set j (.gh d M))[x]? = some y → y.mut → Ga[x]? = some y ∧ ad x ≠ ad i := fun x y hx ex mx => by
    rw [List.getElem?_set_ne (Ne.symm hx)] at ex
    by_cases c : i = x
    · subst c; rw [List.getElem?_set_self hl] at ex; cases ex; exact mx.elim
    · rw [List.getElem?_set_ne c] at ex
      exact ⟨ex, h.ne x i y _ (Ne.symm c) ex e mx trivial⟩
  refine ⟨fun x => if x = j then ad i else ad x, h.sub, by rw [List.length_set, List.length_set]; exact h.len, fun x s ex => ?_, fun x y s t hn e1 e2 m1 m2 => ?_, h.qt⟩
  · by_cases c : x = j
    · subst c
      have hx : x < (Ga.set i .any).length := by
        have := (List.getElem?_eq_some_iff.mp ex).1
        rwa [List.length_set] at this
      rw [List.getElem?_set_self hx] at ex
      cases ex
      rw [if_pos rfl]
      exact k0
    · rw [if_neg c]
      rw [List.getElem?_set_ne (Ne.symm c)] at ex
      by_cases c2 : i = x
      · subst c2; rw [List.getElem?_set_self hl] at ex; cases ex; trivial
      · rw [List.getElem?_set_ne c2] at ex; exact h.ok x s ex
  · show (if x = j then ad i else ad x) ≠ (if y = j then ad i else ad y)
    by_cases c1 : x = j
    · rw [if_pos c1, if_neg (fun z => hn (by rw [c1, z]))]
      exact (far y t (fun z => hn (by rw [c1, z])) e2 m2).2.symm
    · rw [if_neg c1]
      by_cases c2 : y = j
      · rw [if_pos c2]; exact (far x s c1 e1 m1).2
      · rw [if_neg c2]; exact h.ne x y s t hn (far x s c1 e1 m1).1 (far y t c2 e2 m2).1 m1 m2
end
/-! ### slots forgotten -/
def wipeG (Ga : List Sl) : List Nat → List Sl
  | [] => Ga
  | v :: vs => (wipeG Ga vs).set v .any
theorem SI.drop {q : Option Addr} {F : Addr → Prop} {Ga : List Sl} {σ : L2.St} {G H : Hp} (h : SI q F Ga σ G H) (i : Nat) (x : Option V) : SI q F (Ga.set i .any) (σ.set i x) G H := by
  obtain ⟨ad, h⟩ := h
  refine ⟨ad, h.sub, by rw [List.length_set, List.length_set]; exact h.len, fun j s e => ?_, fun j l s1 t1 hn e1 e2 m1 m2 => ?_, h.qt⟩
  · by_cases c : i = j
    · subst c
      rw [List.getElem?_set_self (by have := (List.getElem?_eq_some_iff.mp e).1; rwa [List.length_set] at this)] at e
      cases e; trivial
    · rw [List.getElem?_set_ne c] at e ⊢
      exact h.ok j s e
  · have key : ∀ (x : Nat) (y : Sl), (Ga.set i .any)[x]? = some y → y.mut → Ga[x]? = some y := fun x y e m => by
      by_cases c : i = x
      · subst c
        rw [List.getElem?_set_self (by have := (List.getElem?_eq_some_iff.mp e).1; rwa [List.length_set] at this)] at e
        cases e; exact m.elim
      · rwa [List.getElem?_set_ne c] at e
    exact h.ne j l s1 t1 hn (key _ _ e1 m1) (key _ _ e2 m2) m1 m2
theorem SI.wipe {q : Option Addr} {F : Addr → Prop} {Ga : List Sl} {σ : L2.St} {G H : Hp} (h : SI q F Ga σ G H) : ∀ vs : List Nat, SI q F (wipeG Ga vs) (L2.wipe σ vs) G H
  | [] => h
  | v :: vs => (h.wipe vs).drop v none
theorem wipe_eq : ∀ {vs : List Nat} {σ σ' : L2.St}, σ'.length = σ.length → (∀ j, j ∉ vs → σ'[j]? = σ[j]?) → L2.wipe σ' vs = L2.wipe σ vs := by
  intro vs σ σ' hl h
  apply List.ext_getElem?
  intro j
  by_cases hj : j ∈ vs
  · have key : ∀ (τ : L2.St), τ.length = σ.length → (L2.wipe τ vs)[j]? = if j < σ.length then some none else none := fun τ ht => by
      by_cases hb : j < σ.length
      · rw [if_pos hb]
        cases e : (L2.wipe τ vs)[j]? with
        | none =>
          rw [List.getElem?_eq_none_iff, wipe_length, ht] at e
          omega
        | some x =>
          cases x with
          | none => rfl
          | some y => exact absurd hj (wipe_some e).2
      · rw [if_neg hb, List.getElem?_eq_none_iff, wipe_length, ht]
        omega
    rw [key σ' hl, key σ rfl]
  · rw [wipe_out hj, wipe_out hj]
    exact h j hj
theorem Off.wipe {ks vs : List Nat} {σ σ' : L2.St} (h : Off ks σ σ') (hk : ∀ k ∈ ks, k ∈ vs) : L2.wipe σ' vs = L2.wipe σ vs := wipe_eq h.1 fun j hj => h.2 j fun m => hj (hk j m)
theorem wipe_wipe (σ : L2.St) (vs : List Nat) : L2.wipe (L2.wipe σ vs) vs = L2.wipe σ vs := wipe_eq (wipe_length σ vs) fun j hj => wipe_out hj
end Ty
end
section
/-! Blocks and comprehensions. -/
namespace Ty
open PySem PySem.Spec PyProof.Rows L2
open Evl (Ex)

section
variable {ι : Type} {X : ι → Cx} {Ga Gb Gc Gd : List Sl} {e a c d tg iter : Expr} {es : List Expr} {P P' P1 P2 P3 : Pd} {Ps Qs its : List Pd} {n : Option (List Sl)} {R : Pd} {O : Option Mo} {rest sts th el body : List Stmt} {st : Stmt} {pos : Pos} {b b1 b2 : Bool} {M M' : Mo}

/-- a reading, typed -/
def TyR (te : TE) (Ga : List Sl) (P : Pd) (Gb : List Sl) : Prop :=
  ∀ (q : Option Addr) (F : Addr → Prop) (σ : L2.St) (G H : Hp), SI q F Ga σ G H → ∀ Q : VK,
    (∀ v G' H', Step q G H G' H' → SI q F Gb σ G' H' → P.p v G' → Q v H') → te σ H Q
/-- a reading that makes a new object, not yet known -/
def TyN (te : TE) (Ga : List Sl) (M : Mo) (Gb : List Sl) : Prop :=
  ∀ (q : Option Addr) (F : Addr → Prop) (σ : L2.St) (G H : Hp), SI q F Ga σ G H → ∀ Q : VK,
    (∀ p o G' H', Step q G H G' H' → SI q (fun a => F a ∧ a ≠ p) Gb σ G' H' → q ≠ some p → H p = none → G' p = none → H' p = some o → M.m o G' → Q (.ref p) H') → te σ H Q
theorem TyN.known {te : TE} (h : TyN te Ga M Gb) (hp : ∀ p o G, G p = none → M.m o G → P.p (.ref p) (upd G p o)) : TyR te Ga P Gb := fun q F σ G H I Q k =>
  h q F σ G H I Q fun p o G' H' t I' nq h0 hg ho m => k _ _ _ (t.know h0 hg ho) (I'.know nq hg ho) (hp p o G' hg m)
theorem e_r {te : TE} (h : TyR te Ga P Gb) (mk : ∀ i, PE (X i) e te) : TyE X Ga e P Gb := fun q F σ G H I Q k => ⟨te, mk, h q F σ G H I Q k⟩
theorem Ml.known (p : Addr) (o : HO) (G : Hp) (hg : G p = none) (m : (Ml Ps).m o G) : (Ls Ps).p (.ref p) (upd G p o) := by
  obtain ⟨xs, rfl, h⟩ := m
  exact ⟨p, xs, rfl, upd_same, h.mono (Evl.Ex.new hg)⟩
/-- a new list by a display -/
theorem n_lst (h : TyA X Ga es Ps Gb) (hz : Ps.length ≤ sizeLine) : TyN (tLst (uA X es)) Ga (Ml Ps) Gb := fun q F σ G H I Q k =>
  h q F σ G H I _ fun xs G1 H1 t1 I1 p1 => ⟨by rw [p1.length]; exact hz, fun p hp => by
    obtain ⟨I2, nq⟩ := I1.apart hp
    have t2 : Step q G1 H1 G1 (upd H1 p (.lst xs)) := Step.newM I1.sub hp
    have h0 : H p = none := by
      cases e : H p with
      | none => rfl
      | some u => rw [t1.f p u nq e] at hp; cases hp
    refine k p _ _ _ (t1.trans t2) (I2.step t2 fun b o eb e => ?_) nq h0 (Evl.fresh_back I1.sub hp) upd_same ⟨xs, rfl, p1⟩
    rw [upd_ne (fun z => nq (by rw [eb, z]))]; exact e⟩

/-! ### blocks -/
def OwnAt (Ga : List Sl) (O : Option Mo) : Prop := ∀ M : Mo, O = some M → ∃ (i : Nat) (M' : Mo), Ga[i]? = some (Sl.own M') ∧ ∀ o G, M'.m o G → M.m o G
theorem OwnAt.none : OwnAt Ga Option.none := fun _ e => nomatch e
theorem OwnAt.at (i : Nat) (h : Ga[i]? = some (Sl.own M)) : OwnAt Ga (some M) := fun M' e => ⟨i, M, h, by cases e; exact fun _ _ m => m⟩
theorem OwnAt.imp (i : Nat) (h : Ga[i]? = some (Sl.own M)) (hm : ∀ o G, M.m o G → M'.m o G) : OwnAt Ga (some M') := fun M'' e => ⟨i, M, h, by cases e; exact hm⟩
theorem FS.ret {b : Bs} {σ : L2.St} {G H : Hp} {v : V} (f : FS b Ga σ G H) (o : OwnAt Ga O) (r : R.p v G) : RetOk b R O v G H := by
  refine ⟨f.st, r, fun M e => ?_⟩
  obtain ⟨i, M', hi, hm⟩ := o M e
  obtain ⟨a, u, _, h2, h3, h4, h5⟩ := f.si.getO hi
  exact ⟨a, u, h2, h3, h4, hm _ _ h5⟩
theorem FS.next {b : Bs} {σ : L2.St} {G H G' H' : Hp} (f : FS b Ga σ G H) {σ' : L2.St} (t : Step b.q G H G' H') (I : SI b.q (Fr b) Gb σ' G' H') : FS b Gb σ' G' H' := ⟨I, f.st.trans t⟩
theorem FS.weak {b : Bs} {σ : L2.St} {G H : Hp} (f : FS b Ga σ G H) (l : GaLe Ga Gb) : FS b Gb σ G H := ⟨f.si.weak l, f.st⟩
theorem b_nil (l : GaLe Ga Gb) : TyB X Ga [] (some Gb) R O := fun b σ G H D f kn kr => ⟨tNext, fun _ => pss_nil, kn σ G H (Ex.refl G) (f.weak l)⟩
theorem TyB.weak (h : TyB X Ga sts n R O) (l : GaLe Gc Ga) : TyB X Gc sts n R O := fun b σ G H D f kn kr => h b σ G H D (f.weak l) kn kr
theorem TyB.out (h : TyB X Ga sts none R O) : TyB X Ga sts n R O := fun b σ G H D f kn kr => h b σ G H D f (fun _ _ _ _ z => z.elim) kr
/-- a statement, then the rest -/
theorem b_cons (h : TyS X Ga st (some Gb) R O) (hr : TyB X Gb rest n R O) : TyB X Ga (st :: rest) n R O := fun b σ G H D f kn kr =>
  ⟨tSeq (uS X st) (uB X rest), fun i => pss_cons (uS_ps i) (uB_ps i), h b σ G H { D with nx := uB X rest D } f (fun σ' G' H' e' f' => hr b σ' G' H' D f' (fun σ2 G2 H2 e2 f2 => kn σ2 G2 H2 (Ex.trans e' e2) f2) kr) kr⟩
theorem b_last (h : TyS X Ga st n R O) : TyB X Ga [st] n R O := fun b σ G H D f kn kr =>
  ⟨uS X st, fun i => pss_one (uS_ps i), h b σ G H D f kn kr⟩
/-- the rest of the block is never reached -/
theorem b_end (h : TyS X Ga st none R O) : TyB X Ga (st :: rest) n R O := fun b σ G H D f kn kr =>
  ⟨tSeq (uS X st) (uB X rest), fun i => pss_cons (uS_ps i) (uB_ps i), h b σ G H { D with nx := uB X rest D } f (fun _ _ _ _ z => z.elim) kr⟩
theorem s_ret (h : TyE X Ga e R Gb) (o : OwnAt Gb O) : TyS X Ga (.Return (some e) pos) n R O := fun b σ G H D f kn kr =>
  ⟨tRet (uE X e), fun i => ps_ret (uE_pe i), h b.q (Fr b) σ G H f.si _ fun v G1 H1 t1 I1 p1 => kr v G1 H1 ((f.next t1 I1).ret o p1)⟩
theorem s_retN (o : OwnAt Ga O) (hr : ∀ G, R.p .non G) : TyS X Ga (.Return none pos) n R O := fun b σ G H D f kn kr =>
  ⟨tRetN, fun _ => ps_retN, kr _ G H (f.ret o (hr G))⟩
theorem b_ret (h : TyE X Ga e R Gb) (o : OwnAt Gb O) : TyB X Ga (.Return (some e) pos :: rest) n R O := b_end (s_ret h o)
theorem b_retN (o : OwnAt Ga O) (hr : ∀ G, R.p .non G) : TyB X Ga (.Return none pos :: rest) n R O := b_end (s_retN o hr)
theorem s_set {k : Nat} {te : TE} (mk : ∀ i, PS (X i) st (tAsg te (gName k))) (h : TyR te Ga P Gb) : TyS X Ga st (some (Gb.set k (.is P))) R O := fun b σ G H D f kn kr =>
  ⟨_, mk, h b.q (Fr b) σ G H f.si _ fun v G1 H1 t1 I1 p1 => kn _ G1 H1 t1.k (f.next t1 (I1.put p1))⟩
/-- x = e -/
theorem b_set {k : Nat} {x : Str} {p : Pos} (mk : ∀ i te, PE (X i) e te → PS (X i) (.Assign [.Name x p] e pos) (tAsg te (gName k))) (h : TyE X Ga e P Gb) (hr : TyB X (Gb.set k (.is P)) rest n R O) : TyB X Ga (.Assign [.Name x p] e pos :: rest) n R O :=
  b_cons (s_set (fun i => mk i _ (uE_pe i)) h) hr
theorem b_setR {k : Nat} {te : TE} (mk : ∀ i, PS (X i) st (tAsg te (gName k))) (h : TyR te Ga P Gb) (hr : TyB X (Gb.set k (.is P)) rest n R O) : TyB X Ga (st :: rest) n R O := b_cons (s_set mk h) hr
/-- x = a new object that will change -/
theorem b_setM {k : Nat} {te : TE} (mk : ∀ i, PS (X i) st (tAsg te (gName k))) (h : TyN te Ga M Gb) (hr : TyB X (Gb.set k (.mu M)) rest n R O) : TyB X Ga (st :: rest) n R O :=
  b_cons (fun b σ G H D f kn kr => ⟨_, mk, h b.q (Fr b) σ G H f.si _ fun p o G1 H1 t1 I1 nq h0 hg ho m => by
    have hF : b.H0 p = none := by
      cases e : b.H0 p with
      | none => rfl
      | some u => rw [f.st.f p u nq e] at h0; cases h0
    exact kn _ G1 H1 t1.k (f.next t1 (I1.putM nq hF hg ho m))⟩) hr
/-- target = e, any target -/
theorem b_asg {ks : List Nat} (h : TyE X Ga e P Gb) (hg : TyG X Gb P tg ks Gc) (hr : TyB X Gc rest n R O) (hs : ∀ i, swapsWithSole [tg] e pos.line (X i).env = pure false := by intro i; rfl) (hw : ∀ i, swappedStores [tg] e (X i).env = pure none := by intro i; rfl)
    (h1 : ∀ i, (assignEach [tg] (X i).env).map (·.2) = [assign tg (X i).env] := by intro i; rfl) : TyB X Ga (.Assign [tg] e pos :: rest) n R O :=
  b_cons (fun b σ G H D f kn kr => ⟨tAsg (uE X e) (uG X tg), fun i => ps_asg (uE_pe i) (uG_pg i) (hs i) (hw i) (h1 i), h b.q (Fr b) σ G H f.si _ fun v G1 H1 t1 I1 p1 =>
    hg b.q (Fr b) σ G1 H1 v I1 p1 _ fun σ' G2 H2 t2 _ I2 => kn σ' G2 H2 (t1.trans t2).k (f.next (t1.trans t2) I2)⟩) hr
/-- x, y = e1, e2 -/
theorem b_par {i j : Nat} {e1 e2 : Expr} (mk : ∀ l, PS (X l) st (tPar i j (uA X [e1, e2]))) (h : TyA X Ga [e1, e2] [P1, P2] Gb) (hr : TyB X ((Gb.set i (.is P1)).set j (.is P2)) rest n R O) : TyB X Ga (st :: rest) n R O :=
  b_cons (fun b σ G H D f kn kr => ⟨_, mk, h b.q (Fr b) σ G H f.si _ fun vs G1 H1 t1 I1 p1 => by
    match vs, p1 with
    | [v, w], ⟨p1, p2, _⟩ => exact ⟨v, w, rfl, kn _ G1 H1 t1.k (f.next t1 ((I1.put p1).put p2))⟩⟩) hr
theorem b_expr (h : TyE X Ga e P Gb) (hr : TyB X Gb rest n R O) (hs : ∀ i, swapsWith e none pos.line (X i).env = pure false := by intro i; rfl) : TyB X Ga (.Expr e pos :: rest) n R O :=
  b_cons (fun b σ G H D f kn kr => ⟨tDrop (uE X e), fun i => ps_expr (uE_pe i) (hs i), h b.q (Fr b) σ G H f.si _ fun v G1 H1 t1 I1 p1 => kn _ G1 H1 t1.k (f.next t1 I1)⟩) hr
theorem s_if (h : TyT X Ga c b Gb) (h1 : b = true → TyB X Gb th n R O) (h2 : b = false → TyB X Gb el n R O) : TyS X Ga (.If c th el pos) n R O := fun bs σ G H D f kn kr =>
  ⟨tIfS (uT X c) (uB X th) (uB X el), fun i => ps_if (uT_pt i) (uB_ps i) (uB_ps i), h bs.q (Fr bs) σ G H f.si _ fun G1 H1 t1 I1 => by
    cases b with
    | true => exact h1 rfl bs σ G1 H1 D (f.next t1 I1) (fun σ2 G2 H2 e2 f2 => kn σ2 G2 H2 (Ex.trans t1.k e2) f2) kr
    | false => exact h2 rfl bs σ G1 H1 D (f.next t1 I1) (fun σ2 G2 H2 e2 f2 => kn σ2 G2 H2 (Ex.trans t1.k e2) f2) kr⟩
theorem b_if (h : TyT X Ga c b Gb) (h1 : b = true → TyB X Gb th (some Gc) R O) (h2 : b = false → TyB X Gb el (some Gc) R O) (hr : TyB X Gc rest n R O) : TyB X Ga (.If c th el pos :: rest) n R O := b_cons (s_if h h1 h2) hr
/-- if c: (never) -/
theorem b_guard (h : TyT X Ga c b Gb) (hb : b = false) (hr : TyB X Gb rest n R O) : TyB X Ga (.If c th [] pos :: rest) n R O :=
  b_if h (fun e => by rw [hb] at e; cases e) (fun _ => b_nil (GaLe.refl _)) hr
/-- if c: return .. -/
theorem b_ifr (h : TyT X Ga c b Gb) (h1 : b = true → TyB X Gb th none R O) (hr : b = false → TyB X Gb rest n R O) : TyB X Ga (.If c th [] pos :: rest) n R O := fun bs σ G H D f kn kr => by
  cases b with
  | true => exact b_end (st := .If c th [] pos) (s_if (n := none) h h1 (fun e => nomatch e)) bs σ G H D f kn kr
  | false => exact b_if h (fun e => nomatch e) (fun _ => b_nil (GaLe.refl _)) (hr rfl) bs σ G H D f kn kr
/-- the last statement: an if that returns on both ways -/
theorem b_iflast (h : TyT X Ga c b Gb) (h1 : b = true → TyB X Gb th n R O) (h2 : b = false → TyB X Gb el n R O) : TyB X Ga [.If c th el pos] n R O := b_last (s_if h h1 h2)
/-- a slot's value taken apart -/
theorem b_open {α : Type} {C : α → Prop} {Px : α → Pd} {k : Nat} (hk : Ga[k]? = some (.is (Some' C Px))) (h : ∀ x, C x → TyB X (Ga.set k (.is (Px x))) sts n R O) : TyB X Ga sts n R O := fun b σ G H D f kn kr => by
  obtain ⟨v, ev, x, hx, hp⟩ := f.si.get hk
  have I := f.si.put (i := k) hp
  have es : σ.set k (some v) = σ := by
    apply List.ext_getElem?
    intro j
    by_cases c : k = j
    · subst c
      rw [List.getElem?_set_self (List.getElem?_eq_some_iff.mp ev).1, ev]
    · rw [List.getElem?_set_ne c]
  rw [es] at I
  exact h x hx b σ G H D ⟨I, f.st⟩ kn kr
/-- the object in a slot is not changed any more -/
theorem b_freeze {k : Nat} (hk : Ga[k]? = some (.mu M)) (hp : ∀ p o G, G p = none → M.m o G → P.p (.ref p) (upd G p o)) (h : TyB X (Ga.set k (.is P)) sts n R O) : TyB X Ga sts n R O := fun b σ G H D f kn kr => by
  obtain ⟨a, o, ea, nq, hF, hg, ho, m⟩ := f.si.getM hk
  exact h b σ _ H D ⟨f.si.freeze hk ea ho (hp a o G hg m), f.st.know hF hg ho⟩ (fun σ2 G2 H2 e2 f2 => kn σ2 G2 H2 (Ex.trans (Evl.Ex.new hg) e2) f2) kr
/-! ### loops -/
theorem PassesOwn_of (fam : ∀ i, (X i).xe = fun _ _ => False) (i : ι) : PassesOwn (model (X i).prog (X i).w) (X i).A (X i).env (X i).xe := by rw [fam i]; exact PassesOwn.never
theorem b_for {ks : List Nat} {Inv Bd : Nat → List Sl} (nox : ∀ i, (X i).xe = fun _ _ => False) (calm : ∀ i, (X i).calm = true) (hi : TyI X Ga tg iter its (Inv 0)) (hg : ∀ k P, its[k]? = some P → TyG X (Inv k) P tg ks (Bd k))
    (hb : ∀ k, k < its.length → TyB X (Bd k) body (some (Inv (k + 1))) R O) (hr : TyB X (Inv its.length) rest n R O) (hs : ∀ i x, foldedSetIterable iter (X i).env x = pure x := by intro _ _; rfl) : TyB X Ga (.For tg iter body [] pos :: rest) n R O :=
  b_cons (Gb := Inv its.length) (fun b σ G H D f kn kr => by
    refine ⟨tFor (uI X tg iter) (uG X tg) (uB X body), fun i => ps_for (PassesOwn_of nox i) (calm i) (uI_pi i) (uG_pg i) (uB_ps i) (hs i), hi b.q (Fr b) σ G H f.si _ fun J G1 H1 t1 I1 wt => ?_⟩
    refine ⟨fun i m σ H => m = its.length - i ∧ i ≤ its.length ∧ ∃ G, Ex G1 G ∧ FS b (Inv i) σ G H, ⟨its.length, by simp, Nat.zero_le _, G1, Ex.refl G1, f.next t1 I1⟩, ?_⟩
    rintro i m σ2 H2 ⟨rfl, hle, G2, e2, f2⟩
    by_cases hlt : i < its.length
    · refine .inr ⟨wt.go i G2 H2 e2 f2.si.sub hlt, fun σ' H' => i + 1 ≤ its.length ∧ ∃ G, Ex G1 G ∧ FS b (Inv (i + 1)) σ' G H', fun σ' H' ⟨hl', G', e', f'⟩ => ⟨its.length - (i + 1), by omega, rfl, hl', G', e', f'⟩, fun x H3 y => ?_⟩
      obtain ⟨P, hP⟩ : ∃ P, its[i]? = some P := ⟨its[i], by simp [hlt]⟩
      obtain ⟨G3, t3, p3⟩ := wt.yld i P G2 H2 x H3 e2 f2.si.sub hP y
      have f3 := f2.next t3.any (f2.si.pure t3)
      refine hg i P hP b.q (Fr b) σ2 G3 H3 x f3.si p3 _ fun σ4 G4 H4 t4 _ I4 => ?_
      exact hb i hlt b σ4 G4 H4 _ (f3.next t4 I4) (fun σ5 G5 H5 e5 f5 => ⟨hlt, G5, Ex.trans e2 (Ex.trans (Ex.trans t3.k t4.k) e5), f5⟩) kr
    · have e : i = its.length := by omega
      subst e
      exact .inl ⟨wt.stop G2 H2 e2 f2.si.sub, kn σ2 G2 H2 (Ex.trans t1.k e2) f2⟩) hr
end
end Ty
end
section
/-! Comprehensions. -/
namespace Ty
open PySem PySem.Spec PyProof.Rows L2
open Evl (Ex)

section
variable {q : Option Addr} {F F' : Addr → Prop} {Ga Gb : List Sl} {σ σ' : L2.St} {G H G' H' : Hp} {D : Addr} {o : HO}
theorem SI.off (h : SI q (fun a => F a ∧ a ≠ D) Ga σ G H) (hq : q ≠ some D) (hg : G D = none) : SI q (fun a => F a ∧ a ≠ D) Ga σ G (upd H D o) := by
  obtain ⟨ad, h⟩ := h
  refine ⟨ad, fun a u e => ?_, h.len, fun i s e => ?_, h.ne, fun a e => ?_⟩
  · rw [upd_ne (fun z => by rw [z, hg] at e; cases e)]; exact h.sub a u e
  · have k := h.ok i s e
    cases s with
    | any => trivial
    | is P => exact k
    | mu M => obtain ⟨e, nq, f, g, o', ho, m⟩ := k; exact ⟨e, nq, f, g, o', by rw [upd_ne f.2]; exact ho, m⟩
    | gh b M => obtain ⟨e, nq, f, g, o', ho, m⟩ := k; exact ⟨e, nq, f, g, o', by rw [upd_ne f.2]; exact ho, m⟩
    | own M => obtain ⟨e, eq, g, o', ho, m⟩ := k; exact ⟨e, eq, g, o', by rw [upd_ne (fun z => hq (by rw [eq, z]))]; exact ho, m⟩
  · obtain ⟨g, o', ho⟩ := h.qt a e
    exact ⟨g, o', by rw [upd_ne (fun z => hq (by rw [e, z]))]; exact ho⟩
theorem Step.off {G0 H0 : Hp} (t : Step q G0 H0 G H) (hp : H0 D = none) (hg : G D = none) (hq : q ≠ some D) : Step q G0 H0 G (upd H D o) := by
  refine ⟨t.k, fun a u e => ?_, fun a u nq e => ?_, t.n, fun a e h => ?_⟩
  · rw [upd_ne (fun z => by rw [z, hg] at e; cases e)]; exact t.s a u e
  · rw [upd_ne (ne_of_none e hp)]; exact t.f a u nq e
  · obtain ⟨u, hu⟩ := t.r a e h
    exact ⟨u, by rw [upd_ne (fun z => hq (by rw [e, z]))]; exact hu⟩
/-- only the changing object's description is another -/
def OwnUpd (vs : List Nat) (A B : List Sl) : Prop := B.length = A.length ∧ ∀ (i : Nat) (s : Sl), B[i]? = some s → (A[i]? = some s ∧ ∀ M, s ≠ Sl.own M) ∨ ∃ M M', A[i]? = some (Sl.own M) ∧ s = Sl.own M' ∧ i ∉ vs
theorem OwnUpd.refl {vs : List Nat} {A : List Sl} (h : ∀ i M, A[i]? = some (Sl.own M) → i ∉ vs) : OwnUpd vs A A := ⟨rfl, fun i s e => by
  cases s with
  | own M => exact .inr ⟨M, M, e, rfl, h i M e⟩
  | any => exact .inl ⟨e, fun M z => by cases z⟩
  | is P => exact .inl ⟨e, fun M z => by cases z⟩
  | mu M => exact .inl ⟨e, fun M z => by cases z⟩
  | gh b M => exact .inl ⟨e, fun M z => by cases z⟩⟩
theorem SlOk.stepN {a : Addr} {s : Sl} {x : Option (Option V)} (t : Step q G H G' H') (h : SlOk q F a s x G H) (ho : ∀ M, s ≠ Sl.own M) : SlOk q F a s x G' H' := by
  cases s with
  | any => trivial
  | is P => obtain ⟨v, e, p⟩ := h; exact ⟨v, e, P.mono t.k p⟩
  | mu M =>
    obtain ⟨e, nq, f, g, o, ho', m⟩ := h
    refine ⟨e, nq, f, ?_, o, t.f a o nq ho', M.mono t.k m⟩
    cases c : G' a with
    | none => rfl
    | some u =>
      rcases t.n a u c with ⟨u', e'⟩ | e'
      · rw [g] at e'; cases e'
      · rw [ho'] at e'; cases e'
  | gh b M =>
    obtain ⟨e, nq, f, g, o, ho', m⟩ := h
    refine ⟨e, nq, f, ?_, o, t.f a o nq ho', M.mono t.k m⟩
    cases c : G' a with
    | none => rfl
    | some u =>
      rcases t.n a u c with ⟨u', e'⟩ | e'
      · rw [g] at e'; cases e'
      · rw [ho'] at e'; cases e'
  | own M => exact absurd rfl (ho M)
theorem wipeG_out {Ga : List Sl} {i : Nat} : ∀ {vs : List Nat}, i ∉ vs → (wipeG Ga vs)[i]? = Ga[i]?
  | [], _ => rfl
  | v :: vs, h => by
    have h1 : v ≠ i := fun e => h (by rw [e]; exact List.mem_cons_self)
    unfold wipeG
    rw [List.getElem?_set_ne h1]
    exact wipeG_out fun m => h (List.mem_cons_of_mem _ m)
/-- back from a block -/
theorem SI.back {vs : List Nat} (h : SI q F Ga σ G H) (t : Step q G H G' H') (h2 : SI q F' (wipeG Gb vs) (L2.wipe σ vs) G' H') (hO : OwnUpd vs Ga Gb) : SI q F Gb σ G' H' := by
  obtain ⟨ad, h⟩ := h
  have sub := h2.sub
  obtain ⟨ad2, h2⟩ := h2
  refine ⟨ad, sub, by rw [h.len, hO.1], fun i s e => ?_, fun i j s s2 hn e1 e2 m1 m2 => ?_, h2.qt⟩
  · rcases hO.2 i s e with ⟨e', hn⟩ | ⟨M, M', e', rfl, hi⟩
    · exact (h.ok i s e').stepN t hn
    · obtain ⟨k1, k2, k3, _⟩ := h.ok i _ e'
      obtain ⟨l1, l2, l3, l4⟩ := h2.ok i (.own M') (by rw [wipeG_out hi]; exact e)
      have ea : ad2 i = ad i := by
        rw [k2] at l2
        exact (Option.some.inj l2).symm
      rw [ea] at l3 l4
      exact ⟨k1, k2, l3, l4⟩
  · have key : ∀ (x : Nat) (y : Sl), Gb[x]? = some y → y.mut → ∃ y', Ga[x]? = some y' ∧ y'.mut := fun x y e m => by
      rcases hO.2 x y e with ⟨e', _⟩ | ⟨M, M', e', _, _⟩
      · exact ⟨y, e', m⟩
      · exact ⟨_, e', trivial⟩
    obtain ⟨a1, b1, c1⟩ := key i s e1 m1
    obtain ⟨a2, b2, c2⟩ := key j s2 e2 m2
    exact h.ne i j a1 a2 hn b1 b2 c1 c2
end

section
variable {ι : Type} {X : ι → Cx} {Ga Gb Gc Gd : List Sl} {e a c d tg iter elt : Expr} {es : List Expr} {P P' P1 P2 P3 : Pd} {Ps Qs its : List Pd} {pos : Pos} {M M' : Mo} {scope : Scope} {vs ks : List Nat} {Gf Bd Bt Be : Nat → List Sl} {f : Nat → Pd} {t : Nat → Bool} {ac : Nat → List Pd} {tt : TT}
/-- the contexts of a comprehension's block -/
abbrev blkX (X : ι → Cx) (scope : Scope) : ι × Shared × Hp × Addr × List (Str × Addr) × List Addr → Cx := fun z => (X z.1).blk z.2.1 z.2.2.1 scope (compEnvC scope z.2.2.2.2.1 z.2.2.2.1 (X z.1).env) z.2.2.2.2.2
def TyTT (tt : TT) (Ga : List Sl) (b : Bool) (Gb : List Sl) : Prop :=
  ∀ (q : Option Addr) (F : Addr → Prop) (σ : L2.St) (G H : Hp), SI q F Ga σ G H → ∀ Q : Bool → Hp → Prop, (∀ G' H', Step q G H G' H' → SI q F Gb σ G' H' → Q b H') → tt σ H Q
theorem tt_yes : TyTT tYes Ga true Ga := fun q F σ G H I Q k => k G H (Step.refl I.sub) I
theorem n_lc (hi : TyI X Ga tg iter its (Gf 0)) (hz : its.length ≤ sizeLine) (hO : OwnUpd vs (Gf 0) (Gf its.length)) (hks : ∀ k ∈ ks, k ∈ vs)
    (hg : ∀ k P, its[k]? = some P → TyG (blkX X scope) (wipeG (Gf k) vs) P tg ks (Bd k)) (ht : ∀ k, k < its.length → TyTT tt (Bd k) (t k) (Bt k))
    (he : ∀ k, k < its.length → t k = true → TyE (blkX X scope) (Bt k) elt (f k) (Be k)) (hl : ∀ k, k < its.length → t k = true → GaLe (wipeG (Be k) vs) (wipeG (Gf (k + 1)) vs)) (hl2 : ∀ k, k < its.length → t k = false → GaLe (wipeG (Bt k) vs) (wipeG (Gf (k + 1)) vs))
    (ha0 : ac 0 = []) (ha : ∀ k, k < its.length → ac (k + 1) = if t k = true then ac k ++ [f k] else ac k) :
    TyN (tLc (uI X tg iter) (uG (blkX X scope) tg) tt (uE (blkX X scope) elt) vs) Ga (Ml (ac its.length)) (Gf its.length) := by
  intro q F σ G H I Q k
  have hal : ∀ k, k ≤ its.length → (ac k).length ≤ k := by
    intro k
    induction k with
    | zero => intro _; rw [ha0]; exact Nat.le_refl _
    | succ k ih =>
      intro hk
      rw [ha k hk]
      have := ih (by omega)
      split
      · rw [List.length_append, List.length_singleton]; omega
      · omega
  refine hi q F σ G H I _ fun J G1 H1 t1 I1 wt D hD => ?_
  obtain ⟨I1a, nq⟩ := I1.apart hD
  have gD : G1 D = none := Evl.fresh_back I1.sub hD
  have h0D : H D = none := by
    cases e : H D with
    | none => rfl
    | some u => rw [t1.f D u nq e] at hD; cases hD
  refine ⟨fun i m H' => m = its.length - i ∧ i ≤ its.length ∧ ∃ G' acc, Step q G1 H1 G' H' ∧ SI q (fun a => F a ∧ a ≠ D) (wipeG (Gf i) vs) (L2.wipe σ vs) G' H' ∧ H' D = some (.lst acc) ∧ G' D = none ∧ AllP (ac i) acc G', ⟨its.length, ?_⟩, ?_⟩
  · refine ⟨by simp, Nat.zero_le _, G1, [], (Step.refl I1.sub).off hD gD nq, (I1a.off nq gD).wipe vs, upd_same, gD, ?_⟩
    rw [ha0]; trivial
  rintro i m H2 ⟨rfl, hle, G2, acc, t2, I2, hd, gd, hacc⟩
  by_cases hlt : i < its.length
  · refine .inr ⟨wt.go i G2 H2 t2.k I2.sub hlt, fun H' => i + 1 ≤ its.length ∧ ∃ G' acc, Step q G1 H1 G' H' ∧ SI q (fun a => F a ∧ a ≠ D) (wipeG (Gf (i + 1)) vs) (L2.wipe σ vs) G' H' ∧ H' D = some (.lst acc) ∧ G' D = none ∧ AllP (ac (i + 1)) acc G',
      fun H' ⟨h1, h2⟩ => ⟨its.length - (i + 1), by omega, rfl, h1, h2⟩, fun x H3 y => ?_⟩
    obtain ⟨P, hP⟩ : ∃ P, its[i]? = some P := ⟨its[i], by simp [hlt]⟩
    obtain ⟨G3, t3, p3⟩ := wt.yld i P G2 H2 x H3 t2.k I2.sub hP y
    refine hg i P hP q _ _ G3 H3 x (I2.pure t3) p3 _ fun σ4 G4 H4 t4 o4 I4 => ⟨(o4.wipe hks).trans (wipe_wipe σ vs), ?_⟩
    refine ht i hlt q _ σ4 G4 H4 I4 _ fun G5 H5 t5 I5 => ?_
    have ew : L2.wipe σ4 vs = L2.wipe σ vs := (o4.wipe hks).trans (wipe_wipe σ vs)
    have t25 : Step q G2 H2 G5 H5 := (t3.any.trans t4).trans t5
    have gone : ∀ {G6 H6 : Hp}, Step q G2 H2 G6 H6 → H6 D = some (.lst acc) ∧ G6 D = none := fun {G6 H6} s => by
      refine ⟨s.f D _ nq hd, ?_⟩
      cases e : G6 D with
      | none => rfl
      | some u =>
        rcases s.n D u e with ⟨u', e'⟩ | e'
        · rw [gd] at e'; cases e'
        · rw [hd] at e'; cases e'
    cases htk : t i with
    | true =>
      rw [if_pos rfl]
      refine he i hlt htk q _ σ4 G5 H5 I5 _ fun v G6 H6 t6 I6 p6 => ?_
      have t26 := t25.trans t6
      obtain ⟨hd6, gd6⟩ := gone t26
      refine ⟨acc, hd6, ?_, hlt, G6, acc ++ [v], (t2.trans t26).off hD gd6 nq, ?_, upd_same, gd6, ?_⟩
      · rw [hacc.length]
        have := hal i hle
        omega
      · have I7 := (I6.wipe vs).weak (hl i hlt htk)
        rw [ew] at I7
        exact I7.off nq gd6
      · rw [ha i hlt, if_pos htk]
        exact (hacc.mono t26.k).append ⟨p6, trivial⟩
    | false =>
      rw [if_neg Bool.false_ne_true]
      obtain ⟨hd5, gd5⟩ := gone t25
      refine ⟨hlt, G5, acc, t2.trans t25, ?_, hd5, gd5, ?_⟩
      · have I7 := (I5.wipe vs).weak (hl2 i hlt htk)
        rw [ew] at I7
        exact I7
      · rw [ha i hlt, htk, if_neg Bool.false_ne_true]
        exact hacc.mono t25.k
  · have e : i = its.length := by omega
    subst e
    exact .inl ⟨wt.stop G2 H2 t2.k I2.sub, k D _ G2 H2 (t1.trans t2) (I1a.back t2 I2 hO) nq h0D gd hd ⟨acc, rfl, hacc⟩⟩
/-- the rules of a comprehension, by the parts -/
theorem mk_lc {own : List (Str × Nat)} (calm : ∀ i, (X i).calm = true) (hN : ∀ i, (X i).N.Nodup) (ok : ∀ i, BlkOk (X i).N (X i).env.scope scope own) (hs : ∀ i x, foldedSetIterable iter (X i).env x = pure x := by intro _ _; rfl) (i : ι) :
    PE (X i) (.ListComp elt [⟨tg, iter, [], 0⟩] scope pos) (tLc (uI X tg iter) (uG (blkX X scope) tg) tYes (uE (blkX X scope) elt) (own.map (·.2))) :=
  pe_lc (calm i) (hN i) (uI_pi i) (ok i) (fun s H C cl fp => uG_pg (X := blkX X scope) (i, s, H, C, cl, fp)) (fun _ _ _ _ _ => pts_nil) (fun s H C cl fp => uE_pe (X := blkX X scope) (i, s, H, C, cl, fp)) (hs i)
theorem mk_lcI {own : List (Str × Nat)} (calm : ∀ i, (X i).calm = true) (hN : ∀ i, (X i).N.Nodup) (ok : ∀ i, BlkOk (X i).N (X i).env.scope scope own) (hs : ∀ i x, foldedSetIterable iter (X i).env x = pure x := by intro _ _; rfl) (i : ι) :
    PE (X i) (.ListComp elt [⟨tg, iter, [c], 0⟩] scope pos) (tLc (uI X tg iter) (uG (blkX X scope) tg) (uT (blkX X scope) c) (uE (blkX X scope) elt) (own.map (·.2))) :=
  pe_lc (calm i) (hN i) (uI_pi i) (ok i) (fun s H C cl fp => uG_pg (X := blkX X scope) (i, s, H, C, cl, fp)) (fun s H C cl fp => pts_one (uT_pt (X := blkX X scope) (i, s, H, C, cl, fp))) (fun s H C cl fp => uE_pe (X := blkX X scope) (i, s, H, C, cl, fp)) (hs i)
end
end Ty
namespace Ty
open PySem PySem.Spec PyProof.Rows L2
open Evl (Ex)
section
variable {ι : Type} {X : ι → Cx} {Ga Gb : List Sl} {tg iter elt : Expr} {scope : Scope} {vs ks : List Nat} {tt : TT} {α : Type}
theorem take_more {α : Type} {l : List α} {i : Nat} {x : α} (h : l[i]? = some x) : l.take (i + 1) = l.take i ++ [x] := by
  obtain ⟨hl, e⟩ := List.getElem?_eq_some_iff.mp h
  rw [List.take_succ, h]
  rfl
/-- [f(d) for d in ds if t(d)], nothing changed on the way -/
theorem lc_flt {ds : List α} {it f : α → Pd} {t : α → Bool} {Bd Bt Be : α → List Sl} (hi : TyI X Ga tg iter (ds.map it) Gb) (hz : ds.length ≤ sizeLine) (hO : ∀ i M, Gb[i]? = some (Sl.own M) → i ∉ vs) (hks : ∀ k ∈ ks, k ∈ vs)
    (hg : ∀ d ∈ ds, TyG (blkX X scope) (wipeG Gb vs) (it d) tg ks (Bd d)) (ht : ∀ d ∈ ds, TyTT tt (Bd d) (t d) (Bt d)) (he : ∀ d ∈ ds, t d = true → TyE (blkX X scope) (Bt d) elt (f d) (Be d))
    (hl : ∀ d ∈ ds, GaLe (wipeG (Be d) vs) (wipeG Gb vs)) (hl2 : ∀ d ∈ ds, GaLe (wipeG (Bt d) vs) (wipeG Gb vs)) :
    TyN (tLc (uI X tg iter) (uG (blkX X scope) tg) tt (uE (blkX X scope) elt) vs) Ga (Ml ((ds.filter t).map f)) Gb := by
  cases ds with
  | nil =>
    have := n_lc (X := X) (elt := elt) (scope := scope) (vs := vs) (ks := ks) (Gf := fun _ => Gb) (Bd := fun _ => Gb) (Bt := fun _ => Gb) (Be := fun _ => Gb) (f := fun _ => Is .non) (t := fun _ => true) (ac := fun _ => []) (tt := tt) (its := []) hi (Nat.zero_le _) (OwnUpd.refl hO) hks (fun k P h => by simp at h) (fun k h => by simp at h) (fun k h => by simp at h) (fun k h => by simp at h) (fun k h => by simp at h) rfl (fun k h => by simp at h)
    exact this
  | cons d0 r =>
    generalize hds : d0 :: r = ds at *
    have gd : ∀ k, k < ds.length → ds[k]? = some (ds.getD k d0) ∧ ds.getD k d0 ∈ ds := fun k hk => by
      have e : ds[k]? = some ds[k] := List.getElem?_eq_getElem hk
      have e2 : ds.getD k d0 = ds[k] := by simp [List.getD, e]
      rw [e2]
      exact ⟨e, List.getElem_mem hk⟩
    have := n_lc (X := X) (elt := elt) (scope := scope) (vs := vs) (ks := ks) (Gf := fun _ => Gb) (Bd := fun k => Bd (ds.getD k d0)) (Bt := fun k => Bt (ds.getD k d0)) (Be := fun k => Be (ds.getD k d0)) (f := fun k => f (ds.getD k d0)) (t := fun k => t (ds.getD k d0)) (ac := fun k => ((ds.take k).filter t).map f) (tt := tt) (its := ds.map it) hi (by rw [List.length_map]; exact hz) (OwnUpd.refl hO) hks
      (fun k P h => by
        rw [List.getElem?_map] at h
        have hk : k < ds.length := by
          cases e : ds[k]? with
          | none => rw [e] at h; cases h
          | some z => exact (List.getElem?_eq_some_iff.mp e).1
        rw [(gd k hk).1] at h
        cases h
        exact hg _ (gd k hk).2)
      (fun k h => ht _ (gd k (by simpa using h)).2) (fun k h => he _ (gd k (by simpa using h)).2) (fun k h _ => hl _ (gd k (by simpa using h)).2) (fun k h _ => hl2 _ (gd k (by simpa using h)).2) (by simp)
      (fun k h => by
        rw [take_more (gd k (by simpa using h)).1, List.filter_append, List.map_append]
        generalize ds.getD k d0 = z
        cases c : t z with
        | true => rw [if_pos rfl, List.filter_cons_of_pos c, List.filter_nil]; rfl
        | false => rw [if_neg Bool.false_ne_true, List.filter_cons_of_neg (by rw [c]; exact Bool.false_ne_true), List.filter_nil, List.map_nil, List.append_nil])
    rw [List.length_map, List.take_length] at this
    exact this
theorem lc_map {ds : List α} {it f : α → Pd} {Bd Be : α → List Sl} (hi : TyI X Ga tg iter (ds.map it) Gb) (hz : ds.length ≤ sizeLine) (hO : ∀ i M, Gb[i]? = some (Sl.own M) → i ∉ vs) (hks : ∀ k ∈ ks, k ∈ vs)
    (hg : ∀ d ∈ ds, TyG (blkX X scope) (wipeG Gb vs) (it d) tg ks (Bd d)) (he : ∀ d ∈ ds, TyE (blkX X scope) (Bd d) elt (f d) (Be d))
    (hl : ∀ d ∈ ds, GaLe (wipeG (Be d) vs) (wipeG Gb vs)) (hl2 : ∀ d ∈ ds, GaLe (wipeG (Bd d) vs) (wipeG Gb vs)) :
    TyN (tLc (uI X tg iter) (uG (blkX X scope) tg) tYes (uE (blkX X scope) elt) vs) Ga (Ml (ds.map f)) Gb := by
  have := lc_flt (X := X) (elt := elt) (scope := scope) (tt := tYes) (t := fun _ => true) (Bd := Bd) (Bt := Bd) (Be := Be) (f := f) hi hz hO hks hg (fun _ _ => tt_yes) (fun d hd _ => he d hd) hl hl2
  rw [List.filter_eq_self.mpr (fun _ _ => rfl)] at this
  exact this
end
end Ty
end
section
/-! Defs: their promises, their calls; instances. -/
namespace Ty
open PySem PySem.Spec PyProof.Rows L2
open Evl (Ex)

/-! ### promises -/
def SpD {D : Type} (A : D → List Pd) (S : D → Prop) (R : D → Pd) : Sp := fun vs H Q _ => ∃ (d : D) (G : Hp), S d ∧ Ex G H ∧ AllP (A d) vs G ∧ ∀ v G' H', Step none G H G' H' → (R d).p v G' → Q v H'
/-- the first argument's object is changed -/
def SpO {D : Type} (A : D → List Pd) (S : D → Prop) (R : D → Pd) (M M' : D → Mo) : Sp := fun vs H Q _ => ∃ (d : D) (G : Hp) (p : Addr) (ws : List V) (o : HO), vs = .ref p :: ws ∧ S d ∧ Ex G H ∧ G p = none ∧ H p = some o ∧ (M d).m o G ∧ AllP (A d) ws G ∧
  ∀ v G' H' o', Step (some p) G H G' H' → G' p = none → H' p = some o' → (M' d).m o' G' → (R d).p v G' → Q v H'
section
variable {P : Program} {w : World} {K : PySem.W.Frag} {mg : Str → Option Value} {base : Heap} {x qual : Str} {params : Arguments} {body : List Stmt} {scope : Scope} {dvs : List V} {kws : List (Str × V)} {f : Addr} {fd : FuncData} {N ps : List Str} {k : Nat} {D : Type} {A : D → List Pd} {S : D → Prop} {R : D → Pd} {M M' : D → Mo}
/-- the context of a def's body -/
abbrev bodyX (P : Program) (w : World) (K : PySem.W.Frag) (mg : Str → Option Value) (base : Heap) (N : List Str) (qual : Str) (scope : Scope) (f : Addr) (cdv : Value) (A : Around) (outer : List Env) (s : Shared) (H : Hp) (E : XK) : Unit → Cx := fun _ => (cxOf CX0 P w K mg base N qual scope f cdv A outer s H E).nox
theorem fam_body {cdv : Value} {Ar : Around} {outer : List Env} {s : Shared} {H : Hp} {E : XK} {j : Nat} (hr : Room j (Ar.deeper (envOfC qual scope s.heap.objs.size f cdv))) : Fam (bodyX P w K mg base N qual scope f cdv Ar outer s H E) P w K mg base j :=
  ⟨fun _ => rfl, fun _ => rfl, fun _ => rfl, fun _ => rfl, fun _ => rfl, fun _ => rfl, fun _ => hr⟩
/-- what a body's proof is given -/
def BodyOk (P : Program) (w : World) (K : PySem.W.Frag) (mg : Str → Option Value) (base : Heap) (N : List Str) (qual : Str) (scope : Scope) (body : List Stmt) (k : Nat) (Ga : List Sl) (R : Pd) (O : Option Mo) : Prop :=
  ∀ (f : Addr) (cdv : Value) (Ar : Around) (outer : List Env) (s : Shared) (H : Hp) (E : XK), Fam (bodyX P w K mg base N qual scope f cdv Ar outer s H E) P w K mg base k →
    ∃ n, TyB (bodyX P w K mg base N qual scope f cdv Ar outer s H E) Ga body n R O ∧ ∀ Ge, n = some Ge → (∀ G, R.p .non G) ∧ OwnAt Ge O
def padG (N : List Str) (l : List Sl) : List Sl := l ++ List.replicate (N.length - l.length) .any
theorem start_si {q : Option Addr} {F : Addr → Prop} {vs : List V} {Ps : List Pd} {G H : Hp} (e : Ex G H) (hp : AllP Ps vs G) (hq : q = none) : SI q F (padG N (Ps.map .is)) (L2.start N vs) G H := by
  have hl := hp.length
  refine ⟨fun _ => 0, e, ?_, fun i s es => ?_, fun i j s t hn e1 e2 m1 m2 => ?_, fun a ea => by rw [hq] at ea; cases ea⟩
  · unfold padG L2.start
    simp only [List.length_append, List.length_map, List.length_replicate, hl]
  · unfold padG at es
    by_cases hi : i < Ps.length
    · rw [List.getElem?_append_left (by rw [List.length_map]; exact hi), List.getElem?_map, List.getElem?_eq_getElem hi] at es
      cases es
      obtain ⟨v, hv, p⟩ := hp.get (List.getElem?_eq_getElem hi)
      refine ⟨v, ?_, p⟩
      unfold L2.start
      rw [List.getElem?_append_left (by rw [List.length_map, hl]; exact hi), List.getElem?_map, hv]
      rfl
    · rw [List.getElem?_append_right (by rw [List.length_map]; omega)] at es
      have := (List.mem_replicate.mp (List.mem_of_getElem? es)).2
      subst this
      trivial
  · have key : ∀ (x : Nat) (y : Sl), (padG N (Ps.map .is))[x]? = some y → y.mut → False := fun x y e m => by
      unfold padG at e
      rcases List.mem_append.mp (List.mem_of_getElem? e) with h | h
      · obtain ⟨P, _, rfl⟩ := List.mem_map.mp h
        exact m
      · have := (List.mem_replicate.mp h).2
        subst this
        exact m
    exact (key i s e1 m1).elim
theorem start_own {vs : List V} {Ps : List Pd} {G H : Hp} {p : Addr} {o : HO} {Mm : Mo} {F : Addr → Prop} (e : Ex G H) (hg : G p = none) (ho : H p = some o) (hm : Mm.m o G) (hp : AllP Ps vs G) : SI (some p) F (padG N (.own Mm :: Ps.map .is)) (L2.start N (.ref p :: vs)) G H := by
  have hl := hp.length
  refine ⟨fun _ => p, e, ?_, fun i s es => ?_, fun i j s t hn e1 e2 m1 m2 => ?_, fun a ea => by cases ea; exact ⟨hg, o, ho⟩⟩
  · unfold padG L2.start
    simp only [List.length_append, List.length_map, List.length_replicate, List.length_cons, hl]
  · unfold padG at es
    cases i with
    | zero =>
      simp at es
      subst es
      exact ⟨rfl, rfl, hg, o, ho, hm⟩
    | succ i =>
      have es' : (Ps.map Sl.is ++ List.replicate (N.length - (Sl.own Mm :: Ps.map Sl.is).length) .any)[i]? = some s := by simpa using es
      by_cases hi : i < Ps.length
      · rw [List.getElem?_append_left (by rw [List.length_map]; exact hi), List.getElem?_map, List.getElem?_eq_getElem hi] at es'
        cases es'
        obtain ⟨v, hv, q⟩ := hp.get (List.getElem?_eq_getElem hi)
        refine ⟨v, ?_, q⟩
        unfold L2.start
        rw [List.getElem?_append_left (by rw [List.length_map, List.length_cons, hl]; omega), List.getElem?_map, List.getElem?_cons_succ, hv]
        rfl
      · rw [List.getElem?_append_right (by rw [List.length_map]; omega)] at es'
        have := (List.mem_replicate.mp (List.mem_of_getElem? es')).2
        subst this
        trivial
  · have key : ∀ (x : Nat) (y : Sl), (padG N (.own Mm :: Ps.map .is))[x]? = some y → y.mut → x = 0 := fun x y e m => by
      cases x with
      | zero => rfl
      | succ x =>
        unfold padG at e
        have e' : (Ps.map Sl.is ++ List.replicate (N.length - (Sl.own Mm :: Ps.map Sl.is).length) .any)[x]? = some y := by simpa using e
        rcases List.mem_append.mp (List.mem_of_getElem? e') with h | h
        · obtain ⟨P, _, rfl⟩ := List.mem_map.mp h
          exact m.elim
        · have := (List.mem_replicate.mp h).2
          subst this
          exact m.elim
    exact absurd ((key i s e1 m1).trans (key j t e2 m2).symm) hn
/-- a def that changes nothing keeps its promise, by its body -/
theorem fn_d (F : FunD K x qual params body scope dvs kws f fd) (Sc : FnScope N ps scope) (hl : ∀ d, (A d).length = ps.length) (hb : ∀ d, S d → BodyOk P w K mg base N qual scope body k (padG N ((A d).map .is)) (R d) none) : FnOk P w K mg base CX0 (k + 1) f fd ps (SpD A S R) := by
  refine F.ok Sc (fun vs H Q E ⟨d, G, _, _, h, _⟩ => by rw [h.length]; exact hl d) fun cdv Ar outer s H vs Q E hr ⟨d, G, hs, e, hp, kk⟩ => ?_
  obtain ⟨n, hB, hn⟩ := hb d hs f cdv Ar outer s H E (fam_body hr)
  refine ⟨uB _ body, PSs.nox (uB_ps (X := bodyX P w K mg base N qual scope f cdv Ar outer s H E) ()), ?_⟩
  refine hB ⟨none, G, H⟩ (L2.start N vs) G H _ ⟨start_si e hp rfl, Step.refl e⟩ (fun σ' G' H' _ f' => ?_) fun v G' H' r => kk v G' H' r.st r.r
  cases n with
  | none => exact f'.elim
  | some Ge => exact kk .non G' H' f'.st ((hn Ge rfl).1 G')
theorem fn_o (F : FunD K x qual params body scope dvs kws f fd) (Sc : FnScope N ps scope) (hl : ∀ d, (A d).length + 1 = ps.length) (hb : ∀ d, S d → BodyOk P w K mg base N qual scope body k (padG N (.own (M d) :: (A d).map .is)) (R d) (some (M' d))) : FnOk P w K mg base CX0 (k + 1) f fd ps (SpO A S R M M') := by
  refine F.ok Sc (fun vs H Q E ⟨d, G, p, ws, o, ev, _, _, _, _, _, h, _⟩ => by rw [ev, List.length_cons, h.length]; exact hl d) fun cdv Ar outer s H vs Q E hr ⟨d, G, p, ws, o, ev, hs, e, hg, ho, hm, hp, kk⟩ => ?_
  subst ev
  obtain ⟨n, hB, hn⟩ := hb d hs f cdv Ar outer s H E (fam_body hr)
  refine ⟨uB _ body, PSs.nox (uB_ps (X := bodyX P w K mg base N qual scope f cdv Ar outer s H E) ()), ?_⟩
  have fin : ∀ v G' H', RetOk ⟨some p, G, H⟩ (R d) (some (M' d)) v G' H' → Q v H' := fun v G' H' r => by
    obtain ⟨a, o', ea, ga, ha, ma⟩ := r.o _ rfl
    cases ea
    exact kk v G' H' o' r.st ga ha ma r.r
  refine hB ⟨some p, G, H⟩ (L2.start N (.ref p :: ws)) G H _ ⟨start_own e hg ho hm hp, Step.refl e⟩ (fun σ' G' H' _ f' => ?_) fin
  cases n with
  | none => exact f'.elim
  | some Ge => exact fin .non G' H' (FS.ret f' (hn Ge rfl).2 ((hn Ge rfl).1 G'))
end
end Ty
namespace Ty
open PySem PySem.Spec PyProof.Rows L2
open Evl (Ex)
/-! ### calls -/
section
variable {ι : Type} {X : ι → Cx} {Ga Gb Gc : List Sl} {e o : Expr} {es : List Expr} {Ps : List Pd} {pos p apos : Pos} {x m : Str} {Pr : Program} {w : World} {K : PySem.W.Frag} {mg : Str → Option Value} {base : Heap} {j k : Nat} {f C : Addr} {sp : Sp} {D : Type} {A : D → List Pd} {S : D → Prop} {R : D → Pd} {M M' : D → Mo} {P P1 : Pd}
/-- a def of the module, callable by positional values -/
structure Gf (Pr : Program) (w : World) (K : PySem.W.Frag) (mg : Str → Option Value) (base : Heap) (k : Nat) (x : Str) (sp : Sp) : Prop where
  ex : ∃ f, FnR Pr w K mg base CX0 k f sp ∧ mg x = some (.ref f) ∧ PySem.W.keepIn K (.ref f) = true
theorem pe_gf (fam : Fam X Pr w K mg base j) (F : Gf Pr w K mg base k x sp) (hk : k ≤ j) (i : ι) {t : TA} (hg : Gl (X i) x) (ha : PA (X i) (e :: es) t) (hdb : (x == ("__debug__" : Str)) = false := by decide)
    (he : starEach (e :: es) (X i).env = (false, eval e (X i).env) :: starEach es (X i).env := by rfl) (hpl : (backTo pos (starEach es (X i).env)).any (·.1) = false := by rfl) :
    PE (X i) (.Call (.Name x p) (e :: es) [] pos) (fun σ H Q => t σ H fun vs H1 => sp vs H1 Q E0) := by
  obtain ⟨f, F, hm, kp⟩ := F.ex
  refine ⟨fun pins s σ H Q I h => ?_⟩
  refine wpAny_Call_Name_kw (ld_glob I hg (by rw [fam.mg i]; exact hm) ?_ hdb)
  refine PySem.W.callWith_K (h₀ := (X i).base) I.ok.mod.kin (by rw [fam.K i]; exact kp) (thn (ha.run pos pins s σ H _ I h) fun us s1 ⟨vs, H1, I1, r, q⟩ => ⟨I1.kIn, ?_⟩) he hpl
  exact wpAny_call (run_fnR (by rw [fam.prog i, fam.w i, fam.K i, fam.mg i, fam.base i]; exact F) ((fam.room i).mono hk) pass0 I1 r q)
/-- the same with starred arguments -/
theorem pe_gfS (fam : Fam X Pr w K mg base j) (F : Gf Pr w K mg base k x sp) (hk : k ≤ j) (i : ι) {t : TA} (hg : Gl (X i) x) (ha : PA (X i) (e :: es) t) (hdb : (x == ("__debug__" : Str)) = false := by decide)
    (he : starEach (e :: es) (X i).env = (false, eval e (X i).env) :: starEach es (X i).env := by rfl) (hst : (backTo pos (starEach es (X i).env)).any (·.1) = true := by rfl) :
    PE (X i) (.Call (.Name x p) (e :: es) [] pos) (fun σ H Q => t σ H fun vs H1 => sp vs H1 Q E0) := by
  obtain ⟨f, F, hm, kp⟩ := F.ex
  exact StX.pe_callS2 (by rw [fam.prog i, fam.w i, fam.K i, fam.mg i, fam.base i]; exact F) ((fam.room i).mono hk) (by rw [fam.K i]; exact kp) hg (by rw [fam.mg i]; exact hm) pass0 ha hdb he hst
theorem e_spD (mk : ∀ i, PE (X i) e (fun σ H Q => uA X es σ H fun vs H1 => SpD A S R vs H1 Q E0)) (d : D) (hs : S d) (ha : TyA X Ga es (A d) Gb) : TyE X Ga e (R d) Gb := fun q F σ G H I Q kk =>
  ⟨_, mk, ha q F σ G H I _ fun vs G1 H1 t1 I1 p1 => ⟨d, G1, hs, I1.sub, p1, fun v G2 H2 t2 r => kk v G2 H2 (t1.trans t2.any) (I1.pure t2) r⟩⟩
/-- f(e, ..) -/
theorem e_gf (fam : Fam X Pr w K mg base j) (F : Gf Pr w K mg base k x (SpD A S R)) (d : D) (hg : ∀ i, Gl (X i) x) (ha : TyA X Ga (e :: es) (A d) Gb) (hs : S d) (hk : k ≤ j := by decide) (hdb : (x == ("__debug__" : Str)) = false := by decide)
    (he : ∀ i, starEach (e :: es) (X i).env = (false, eval e (X i).env) :: starEach es (X i).env := by intro i; rfl) (hpl : ∀ i, (backTo pos (starEach es (X i).env)).any (·.1) = false := by intro i; rfl) :
    TyE X Ga (.Call (.Name x p) (e :: es) [] pos) (R d) Gb := e_spD (fun i => pe_gf fam F hk i (hg i) (uA_pa i) hdb (he i) (hpl i)) d hs ha
theorem e_gfS (fam : Fam X Pr w K mg base j) (F : Gf Pr w K mg base k x (SpD A S R)) (d : D) (hg : ∀ i, Gl (X i) x) (ha : TyA X Ga (e :: es) (A d) Gb) (hs : S d) (hk : k ≤ j := by decide) (hdb : (x == ("__debug__" : Str)) = false := by decide)
    (he : ∀ i, starEach (e :: es) (X i).env = (false, eval e (X i).env) :: starEach es (X i).env := by intro i; rfl) (hst : ∀ i, (backTo pos (starEach es (X i).env)).any (·.1) = true := by intro i; rfl) :
    TyE X Ga (.Call (.Name x p) (e :: es) [] pos) (R d) Gb := e_spD (fun i => pe_gfS fam F hk i (hg i) (uA_pa i) hdb (he i) (hst i)) d hs ha
/-- the changing object, then the other arguments -/
theorem SI.own_call {q : Option Addr} {F : Addr → Prop} {σ : L2.St} {G H G' H' : Hp} {a : Addr} {i : Nat} {Mm Mm' : Mo} {o' : HO} (I : SI q F Ga σ G H) (hi : Ga[i]? = some (Sl.own Mm)) (ea : σ[i]? = some (some (.ref a))) (t : Step (some a) G H G' H') (hg : G' a = none) (ho : H' a = some o') (hm : Mm'.m o' G') :
    Step q G H G' H' ∧ SI q F (Ga.set i (.own Mm')) σ G' H' := by
  obtain ⟨a', u, ea', hq, hga, hu, _⟩ := I.getO hi
  rw [ea] at ea'
  cases ea'
  refine ⟨by rw [hq]; exact t, ?_⟩
  obtain ⟨ad, I⟩ := I
  have hl : i < Ga.length := (List.getElem?_eq_some_iff.mp hi).1
  have ki := I.ok i _ hi
  have eai : ad i = a := by
    have := ki.1
    rw [ea] at this
    cases this
    rfl
  refine ⟨ad, t.s, by rw [List.length_set]; exact I.len, fun l s es => ?_, fun l1 l2 s1 s2 hn e1 e2 m1 m2 => ?_, fun b eb => ?_⟩
  · by_cases c : i = l
    · subst c
      rw [List.getElem?_set_self hl] at es
      cases es
      exact ⟨by rw [eai]; exact ea, by rw [eai]; exact hq, by rw [eai]; exact hg, o', by rw [eai]; exact ho, hm⟩
    · rw [List.getElem?_set_ne c] at es
      have kl := I.ok l s es
      refine SlOk.stepN (q := q) (by rw [hq]; exact t) kl fun M z => ?_
      subst z
      exact I.ne l i _ _ (Ne.symm c) es hi trivial trivial (by have := kl.2.1; rw [hq] at this; rw [eai]; exact (Option.some.inj this).symm)
  · have key : ∀ (y : Nat) (s : Sl), (Ga.set i (.own Mm'))[y]? = some s → s.mut → ∃ s', Ga[y]? = some s' ∧ s'.mut := fun y s e m => by
      by_cases c : i = y
      · subst c; exact ⟨_, hi, trivial⟩
      · rw [List.getElem?_set_ne c] at e; exact ⟨s, e, m⟩
    obtain ⟨a1, b1, c1⟩ := key l1 s1 e1 m1
    obtain ⟨a2, b2, c2⟩ := key l2 s2 e2 m2
    exact I.ne l1 l2 a1 a2 hn b1 b2 c1 c2
  · rw [hq] at eb
    cases eb
    exact ⟨hg, o', ho⟩
theorem e_spO {i : Nat} {y : Str} {py : Pos} (mk : ∀ i, PE (X i) e (fun σ H Q => uA X (.Name y py :: es) σ H fun vs H1 => SpO A S R M M' vs H1 Q E0)) (d : D) (hs : S d) (hv : ∀ j, PE (X j) (.Name y py) (tVar i)) (hi : Gb[i]? = some (.own (M d))) (ha : TyA X Ga es (A d) Gb)
    (hss : ∀ l, starEach (.Name y py :: es) (X l).env = (false, eval (.Name y py) (X l).env) :: starEach es (X l).env := by intro l; rfl) (h0 : ∃ M0, Ga[i]? = some (.own M0)) : TyE X Ga e (R d) (Gb.set i (.own (M' d))) := fun q F σ G H I Q kk => by
  refine ⟨_, mk, tCons (tVar i) (uA X es), fun l => pa_cons (hv l) (uA_pa l) (hss l), ?_⟩
  obtain ⟨M0, h0⟩ := h0
  obtain ⟨a, _, ea, _⟩ := I.getO h0
  refine ⟨.ref a, ea, ha q F σ G H I _ fun vs G1 H1 t1 I1 p1 => ?_⟩
  obtain ⟨a', o1, ea', hq, g1, ho1, hm1⟩ := I1.getO hi
  rw [ea] at ea'
  cases ea'
  refine ⟨d, G1, a, vs, o1, rfl, hs, I1.sub, g1, ho1, hm1, p1, fun v G2 H2 o2 t2 g2 ho2 hm2 r => ?_⟩
  obtain ⟨t3, I3⟩ := I1.own_call hi ea t2 g2 ho2 hm2
  exact kk v G2 H2 (t1.trans t3) I3 r
/-- f(pool, e, ..) -/
theorem e_gfO {i : Nat} {y : Str} {py : Pos} (fam : Fam X Pr w K mg base j) (F : Gf Pr w K mg base k x (SpO A S R M M')) (d : D) (hg : ∀ i, Gl (X i) x) (hv : ∀ j, PE (X j) (.Name y py) (tVar i)) (h0 : ∃ M0, Ga[i]? = some (.own M0)) (ha : TyA X Ga es (A d) Gb) (hi : Gb[i]? = some (.own (M d))) (hs : S d) (hk : k ≤ j := by decide) (hdb : (x == ("__debug__" : Str)) = false := by decide)
    (he : ∀ l, starEach (.Name y py :: es) (X l).env = (false, eval (.Name y py) (X l).env) :: starEach es (X l).env := by intro i; rfl) (hpl : ∀ i, (backTo pos (starEach es (X i).env)).any (·.1) = false := by intro i; rfl) :
    TyE X Ga (.Call (.Name x p) (.Name y py :: es) [] pos) (R d) (Gb.set i (.own (M' d))) := e_spO (fun i => pe_gf fam F hk i (hg i) (uA_pa i) hdb (he i) (hpl i)) d hs hv hi ha he h0

/-! ### instances -/
/-- an instance of the class at C, its attributes -/
def In (C : Addr) (Fs : List (Str × Pd)) : Pd := ⟨fun v G => ∃ a dx vs, v = .ref a ∧ G a = some (.ins C dx ((Fs.map Prod.fst).zip vs)) ∧ AllP (Fs.map Prod.snd) vs G, fun e ⟨a, dx, vs, h1, h2, h3⟩ => ⟨a, dx, vs, h1, e _ _ h2, h3.mono e⟩⟩
def Ob (C : Addr) (Fs : List (Str × Pd)) : Mo := ⟨fun o G => ∃ dx vs, o = .ins C dx ((Fs.map Prod.fst).zip vs) ∧ AllP (Fs.map Prod.snd) vs G, fun e ⟨dx, vs, h1, h2⟩ => ⟨dx, vs, h1, h2.mono e⟩⟩
theorem Ob.known {Fs : List (Str × Pd)} (p : Addr) (o : HO) (G : Hp) (hg : G p = none) (m : (Ob C Fs).m o G) : (In C Fs).p (.ref p) (upd G p o) := by
  obtain ⟨dx, vs, rfl, h⟩ := m
  exact ⟨p, dx, vs, rfl, upd_same, h.mono (Evl.Ex.new hg)⟩
/-- the i-th attribute, the first of its name -/
def AtF (Fs : List (Str × Pd)) (n : Str) (i : Nat) : Prop := (Fs.map Prod.fst)[i]? = some n ∧ ((Fs.map Prod.fst).take i).all (fun x => !(n == x)) = true
theorem lookup_at {n : Str} {v : V} : ∀ {l : List Str} {vs : List V} {i : Nat}, l[i]? = some n → (l.take i).all (fun x => !(n == x)) = true → vs[i]? = some v → (l.zip vs).lookup n = some v
  | x :: l, y :: vs, 0, h, _, hv => by
    simp at h hv
    subst h; subst hv
    simp [List.lookup]
  | x :: l, y :: vs, i + 1, h, ha, hv => by
    have ha' : (!(n == x)) = true ∧ (l.take i).all (fun x => !(n == x)) = true := by simpa using ha
    have hn : (n == x) = false := by simpa using ha'.1
    show (match n == x with | true => some y | false => (l.zip vs).lookup n) = some v
    rw [hn]
    exact lookup_at (by simpa using h) ha'.2 (by simpa using hv)
  | [], _, _, h, _, _ => by simp at h
  | _ :: _, [], _, _, _, hv => by simp at hv
theorem lookup_no {n : Str} : ∀ {l : List Str} {vs : List V}, l.all (fun x => !(n == x)) = true → (l.zip vs).lookup n = none
  | [], _, _ => rfl
  | _ :: _, [], _ => rfl
  | x :: l, y :: vs, h => by
    have h' : (!(n == x)) = true ∧ l.all (fun x => !(n == x)) = true := by simpa using h
    have hn : (n == x) = false := by simpa using h'.1
    show (match n == x with | true => some y | false => (l.zip vs).lookup n) = none
    rw [hn]
    exact lookup_no h'.2
theorem e_fld {Fs : List (Str × Pd)} {n : Str} (i : Nat) (hK : ∀ l, (X l).K = K) (c : Cls K C) (na : NoAttr K C n) (h : TyE X Ga e (In C Fs) Gb) (hi : Fs[i]? = some (n, P)) (ht : AtF Fs n i) (hb : ∀ l, attributeBase e n (X l).env (eval e (X l).env) = eval e (X l).env := by intro l; rfl) : TyE X Ga (.Attribute e n pos) P Gb := fun q F σ G H I Q kk => by
  refine ⟨tFld K (uE X e) n, fun l => by rw [← hK l]; exact pe_fld (uE_pe l) (hb l), h q F σ G H I _ fun v G1 H1 t1 I1 p1 => ?_⟩
  obtain ⟨a, dx, vs, ev, ho, hp⟩ := p1
  have hm : (Fs.map Prod.snd)[i]? = some P := by rw [List.getElem?_map, hi]; rfl
  obtain ⟨u, hu, pu⟩ := hp.get hm
  exact ⟨a, C, dx, _, u, ev, I1.sub _ _ ho, c, na, lookup_at ht.1 ht.2 hu, kk u G1 H1 t1 I1 pu⟩
end
end Ty
end
section
/-! Own operators of instances, by values. -/
namespace Ow
open PySem PySem.Spec PyProof.Rows L2
open Evl (Ex)

/-- one instance of the class at C, two -/
def r1O (C : Addr) (sp : Sp) : V → Hp → VK → Prop := fun x H Q => ∃ a dx fs, x = .ref a ∧ H a = some (.ins C dx fs) ∧ sp [x] H Q E0
def r2O (C : Addr) (sp : Sp) : R2 := fun x y H Q => ∃ a dx fs b dy gs, x = .ref a ∧ H a = some (.ins C dx fs) ∧ y = .ref b ∧ H b = some (.ins C dy gs) ∧ sp [x, y] H Q E0
section
variable {X : Cx} {C g : Addr} {n : Nat} {sp : Sp}
theorem inst_of {pins : List (Addr × Obj)} {σ : L2.St} {H : Hp} {s : Shared} {a dx : Addr} {fs : List (Str × V)} (I : Inv X pins σ H s) (h : H a = some (.ins C dx fs)) : ∃ od, PySem.W.InstAt s.heap a (PySem.W.instObj C dx) C (some od) := by
  obtain ⟨mA, O, _⟩ := ins_get I.hok h
  obtain ⟨od, J, _⟩ := O.look
  exact ⟨od, J⟩
theorem op_bin {op : Operator} (hc : PySem.W.selfFirst X.K C = true) (hs : PySem.W.findIn X.K (.ref C) (PySem.dunder op.info.2) = some (some (.ref g))) (hf : PySem.W.isFn X.K (.ref g) = true) (F : FnR X.prog X.w X.K X.mg X.base CX0 n g sp) (hr : Room n X.A) : OpR X (binaryOp op) (r2O C sp) := by
  intro pins s σ H x y v u Q I rx ry h
  obtain ⟨a, dx, fs, b, dy, gs, rfl, ha, rfl, hb, q⟩ := h
  cases (show v = Value.ref a from rx)
  cases (show u = Value.ref b from ry)
  obtain ⟨od, J⟩ := inst_of I ha
  obtain ⟨od', J'⟩ := inst_of I hb
  obtain ⟨m, hF⟩ := I.fr
  refine PySem.W.binop_K hF I.ok.mod.kin J J'.type hc hs hf ?_
  refine wpAny_mono (wpAny_call (run_fnR (us := [.ref a, .ref b]) (vs := [.ref a, .ref b]) F hr pass0 I (.cons rfl (.cons rfl .nil)) q)) (fun w s' z => ?_) fun _ _ x => x
  obtain ⟨z', H', I', rz, qz⟩ := z
  exact SlX.cmpback rz ⟨z', H', I', rz, qz⟩
theorem op_eqO (hs : PySem.W.findIn X.K (.ref C) "__eq__" = some (some (.ref g))) (hf : PySem.W.isFn X.K (.ref g) = true) (F : FnR X.prog X.w X.K X.mg X.base CX0 n g sp) (hr : Room n X.A) : OpR X (compareOp .Eq) (r2O C sp) := by
  intro pins s σ H x y v u Q I rx ry h
  obtain ⟨a, dx, fs, b, dy, gs, rfl, ha, rfl, hb, q⟩ := h
  cases (show v = Value.ref a from rx)
  cases (show u = Value.ref b from ry)
  obtain ⟨od, J⟩ := inst_of I ha
  obtain ⟨od', J'⟩ := inst_of I hb
  obtain ⟨m, hF⟩ := I.fr
  refine PySem.W.cmp_K (op := .Eq) (tb := .ref C) hr.units0 hF I.ok.mod.kin J J'.type (by simp [PySem.W.notFirst]) hs hf ?_
  refine wpAny_mono (wpAny_call (run_fnR (us := [.ref a, .ref b]) (vs := [.ref a, .ref b]) F hr pass0 I (.cons rfl (.cons rfl .nil)) q)) (fun w s' z => ?_) fun _ _ x => x
  obtain ⟨z', H', I', rz, qz⟩ := z
  exact SlX.cmpback rz ⟨z', H', I', rz, qz⟩
/-- x != y by the text's ==: the answer is a bool -/
def rNeO (C : Addr) (sp : Sp) : R2 := r2O C fun vs H Q E => sp vs H (fun z H' => ∃ b, z = .bl b ∧ Q (.bl (!b)) H') E
theorem bound_ne {M : Model} {A : Around} {E : Value → Shared → Prop} {s : Shared} {K : PySem.W.Frag} {x : Addr} {ox : Obj} {od : Option Obj} {args : List Value} {Q : Option Value → Shared → Prop} (X : K.In s.heap) (I : PySem.W.InstAt s.heap x ox C od) (hs : PySem.W.findIn K (.ref C) "__ne__" = some (some (.builtin "object.__ne__")))
    (h : wpAny M A (call (.builtin "object.__ne__") (.ref x :: args)) (fun v => Q (some v)) E s) : wpAny M A (callSpecialIfBound? (.ref x) "__ne__" args) Q E s := by
  simp only [callSpecialIfBound?, bindSpecialIfBound?]
  refine wpAny_holding (wpAny_bind (wpAny_bind (wpAny_bind (I.type.here ((PySem.W.looks_findIn X hs).here ?_)))))
  refine wpAny_bind (wpAny_askSetting (wpAny_ite ?_))
  have fin : wpAny M A (call (.builtin "object.__ne__") ([.ref x] ++ args) >>= fun v => pure (some v)) Q E s := wpAny_bind (wpAny_mono h (fun v s' h' => wpAny_pure h') fun _ _ h' => h')
  split
  · exact wpAny_bind (wpAny_of_eq (F.cmp_object.ne.bind _) (wpAny_pure (by exact fin)))
  · exact wpAny_tryCatch (wpAny_bind (wpAny_of_eq (F.cmp_object.ne.bind _) (wpAny_pure (by exact fin))))
theorem entry_ne {prog : Program} {w : World} {A : Around} {E : Value → Shared → Prop} {s : Shared} {K : PySem.W.Frag} {x y f : Addr} {ox : Obj} {od : Option Obj} (X : K.In s.heap) (I : PySem.W.InstAt s.heap x ox C od) (hs : PySem.W.findIn K (.ref C) "__eq__" = some (some (.ref f))) (hf : PySem.W.isFn K (.ref f) = true) (hu : A.units < cLine) {Q : Fin → Shared → Prop}
    (hcall : wpAny (model prog w) A (call (.ref f) [.ref x, .ref y]) (fun v s' => ∃ b, v = .bool b ∧ Q (.done (.ret (.bool (!b)))) s') E s) :
    wpAny (model prog w) A (Builtin.«object.__ne__» ⟨[.ref x, .ref y], []⟩) Q E s := by
  unfold Builtin.«object.__ne__»
  repeat (first
    | with_reducible refine wpAny_cRoomFor hu ?_
    | (refine wpAny_bind (m := callSpecialIfBound? (.ref x) (Str.ofString "__eq__") [.ref y])
        (PySem.W.ifBound_K X I hs hf (wpAny_mono hcall (fun r s' hr => by
          obtain ⟨b, rfl, hq⟩ := hr
          repeat (first | exact hq | exact wpAny_pure hq | exact wpAny_truthy_bool hq | (refine wpAny_bind (m := truthy (.bool _)) (wpAny_truthy_bool ?_)) | wp_step)) fun _ _ e => e)))
    | wp_step)
/-- what != asks of the class at C -/
structure NeC (K : PySem.W.Frag) (C g : Addr) : Prop where
  eq : PySem.W.findIn K (.ref C) "__eq__" = some (some (.ref g))
  fn : PySem.W.isFn K (.ref g) = true
  ne : PySem.W.findIn K (.ref C) "__ne__" = some (some (.builtin "object.__ne__"))
  ob : PySem.W.mroIn K C (.type "object") = some true
theorem op_neO (N : NeC X.K C g) (Fn : FnR X.prog X.w X.K X.mg X.base CX0 n g sp) (hr : Room (n + 1) X.A) : OpR X (compareOp .NotEq) (rNeO C sp) := by
  intro pins s σ H x y v u Q I rx ry h
  obtain ⟨a, dx, fs, b, dy, gs, rfl, ha, rfl, hb, q⟩ := h
  cases (show v = Value.ref a from rx)
  cases (show u = Value.ref b from ry)
  obtain ⟨od, J⟩ := inst_of I ha
  obtain ⟨od', J'⟩ := inst_of I hb
  have hcall : ∀ s2, s2 = s → wpAny (model X.prog X.w) X.A.in1 (call (.ref g) [.ref a, .ref b]) (fun v s' => ∃ c, v = .bool c ∧ EP X pins σ Q (.bool (!c)) s') X.xe s2 := fun s2 e2 => by
    subst e2
    refine wpAny_mono (wpAny_call (SlX.run_at (us := [.ref a, .ref b]) (ws := [.ref a, .ref b]) Fn hr.in1 I.env0.in1 pass0 I (.cons rfl (.cons rfl .nil)) q)) (fun w s' z => ?_) fun _ _ x => x
    obtain ⟨z', H', I', rz, c, ez, qz⟩ := z
    subst ez
    cases rz
    exact ⟨c, rfl, .bl (!c), H', I', rfl, qz⟩
  show wpAny (model X.prog X.w) X.A (richCompare .NotEq (.ref a) (.ref b)) _ _ s
  unfold richCompare
  simp only [oneThing_ref]
  refine wpAny_holding ?_
  refine wpAny_bind (wpAny_cRoomFor hr.units0 ?_)
  rw [cmpInfo_NotEq]
  dsimp only
  refine wpAny_bind (J.type.here ?_)
  refine wpAny_bind (J'.type.here ?_)
  rw [show (Value.ref C != Value.ref C) = false from by simp]
  simp only [Bool.false_eq_true, if_false]
  refine wpAny_bind (wpAny_pure ?_)
  simp only [Bool.false_eq_true, if_false]
  refine wpAny_bind (m := tryCompare (.ref a) "__ne__" (.ref b)) ?_
  have one : wpAny (model X.prog X.w) X.A (tryCompare (.ref a) "__ne__" (.ref b)) (fun r s' => ∃ v, r = some v ∧ EP X pins σ Q v s') X.xe s := ?one
  · refine wpAny_mono one (fun r s' z => ?_) fun _ _ e => e
    obtain ⟨v, rfl, hq⟩ := z
    exact wpAny_pure hq
  unfold tryCompare
  refine wpAny_bind (bound_ne I.kIn J N.ne (wpAny_call (codeAny_call_builtin F.cmp_object.ne.plain F.cmpEntry_ne (PySem.W.check_slot F.cmpKind_ne F.cmpSplit_ne (J.type.andThen (PySem.W.looks_mroIn I.kIn N.ob)) (F.cmpArgs_ne _ _)
    (entry_ne I.kIn J N.eq N.fn hr.in1.units0 (wpAny_mono (hcall s rfl) (fun v s' hv => ?_) fun _ _ e => e))))))
  obtain ⟨c, rfl, hq⟩ := hv
  exact ⟨c, rfl, wpAny_pure ⟨_, rfl, hq⟩⟩
theorem un_negO (hs : PySem.W.findIn X.K (.ref C) "__neg__" = some (some (.ref g))) (hf : PySem.W.isFn X.K (.ref g) = true) (F : FnR X.prog X.w X.K X.mg X.base CX0 n g sp) (hr : Room n X.A) : UnR X (unaryOp .USub) (r1O C sp) := by
  intro pins s σ H x v Q I rx h
  obtain ⟨a, dx, fs, rfl, ha, q⟩ := h
  cases (show v = Value.ref a from rx)
  obtain ⟨od, J⟩ := inst_of I ha
  obtain ⟨m, hF⟩ := I.fr
  exact PySem.W.ksp_neg hF I.ok.mod.kin J hs hf (wpAny_call (run_fnR (us := [.ref a]) (vs := [.ref a]) F hr pass0 I (.cons rfl .nil) q))
theorem call_lenO (hs : PySem.W.findIn X.K (.ref C) "__len__" = some (some (.ref g))) (hf : PySem.W.isFn X.K (.ref g) = true) (F : FnR X.prog X.w X.K X.mg X.base CX0 n g sp) (hr : Room (n + 1) X.A) : CallR X (.builtin "len") (fun vs H Q => ∃ x, vs = [x] ∧ r1O C sp x H fun z H' => ∃ k : Int, z = .int k ∧ (0 ≤ k ∧ k < 2 ^ 63) ∧ Q z H') := by
  intro pins s σ H xs us Q I r h
  obtain ⟨x, rfl, a, dx, fs, rfl, ha, q⟩ := h
  obtain ⟨u, rfl, ru⟩ := r.one
  cases (show u = Value.ref a from ru)
  obtain ⟨od, J⟩ := inst_of I ha
  obtain ⟨m, hF⟩ := I.fr
  refine PySem.W.len_K hF I.ok.mod.kin J hs hf (wpAny_mono (wpAny_call (SlX.run_at (us := [.ref a]) (ws := [.ref a]) F hr.in1 I.env0.in1 pass0 I (.cons rfl .nil) q)) (fun w s' z => ?_) fun _ _ x => x)
  obtain ⟨z', H', I', rz, k, ez, hk, qz⟩ := z
  subst ez
  obtain ⟨t, e⟩ := (show ∃ t, w = Value.int k t from rz)
  subst e
  exact ⟨hk, .int k, H', I'.tok _, ⟨_, rfl⟩, qz⟩
theorem call_strO (hs : PySem.W.findIn X.K (.ref C) "__str__" = some (some (.ref g))) (hf : PySem.W.isFn X.K (.ref g) = true) (F : FnR X.prog X.w X.K X.mg X.base CX0 n g sp) (hr : Room (n + 2) X.A) : CallR X (.type "str") (fun vs H Q => ∃ x, vs = [x] ∧ r1O C sp x H fun z H' => ∃ y : Str, z = .str y ∧ Q z H') := by
  intro pins s σ H xs us Q I r h
  obtain ⟨x, rfl, a, dx, fs, rfl, ha, q⟩ := h
  obtain ⟨u, rfl, ru⟩ := r.one
  cases (show u = Value.ref a from ru)
  obtain ⟨od, J⟩ := inst_of I ha
  have hr2 : Room n X.A.in1.in1 := (show Room (n + 1) X.A.in1 from Room.in1 hr).in1
  refine PySem.W.kso_call hr2.units0 I.kIn J hs hf (wpAny_mono (wpAny_call (SlX.run_at (us := [.ref a]) (ws := [.ref a]) F hr2 I.env0.in1.in1 pass0 I (.cons rfl .nil) q)) (fun w s' z => ?_) fun _ _ x => x)
  obtain ⟨z', H', I', rz, y, ez, qz⟩ := z
  subst ez
  obtain ⟨t, e⟩ := (show ∃ t, w = Value.str y t from rz)
  subst e
  exact ⟨.str y, H', I', ⟨_, rfl⟩, qz⟩
end
end Ow
end
section
/-! Own instances that are walked by a tuple's iterator: for x in o, list(o). -/
namespace Ow
open PySem PySem.Spec PyProof.Rows L2
open Evl (Ex)

/-- at it a new iterator over the tuple at t -/
def ItT (t it : Addr) : HO := .ext fun h => h.get? it = some ({ cls := .type "tuple_iterator", data := .fields #[.ref t, .int 0 0] } : Obj)
def rIterT (K : PySem.W.Frag) (n : Nat) : List V → Hp → VK → Prop := fun xs H Q => ∃ (t : Addr) (zs : List V), xs = [.ref t] ∧ SqT K H t zs ∧ ∀ it, H it = none → n ≤ it → Q (.ref it) (upd H it (ItT t it))
/-- an own __iter__ that hands on a new iterator over the tuple in the field -/
def FnIt (P : Program) (w : World) (K : PySem.W.Frag) (mg : Str → Option Value) (base : Heap) (k : Nat) (g C : Addr) (fld : Str) : Prop :=
  ∀ (A : Around) (outer : List Env) (s : Shared) (H : Hp) (a dx : Addr) (fs : List (Str × V)) (t : Addr) (zs : List V), Room k A → Env0 P w K mg base A outer s H → H a = some (.ins C dx fs) → fs.lookup fld = some (.ref t) → SqT K H t zs →
    codeAny (model P w) A (.call (.ref g) ⟨[.ref a], []⟩) (CR CX0 outer P w H s (fun v H' => ∃ it, v = .ref it ∧ s.heap.objs.size ≤ it ∧ H it = none ∧ H' = upd H it (ItT t it)) E0) s
section
variable {P : Program} {w : World} {K : PySem.W.Frag} {mg : Str → Option Value} {base : Heap} {k : Nat} {g C : Addr} {fld x qual : Str} {params : Arguments} {body : List Stmt} {scope : Scope} {dvs : List V} {kws : List (Str × V)} {fd : FuncData} {N ps : List Str}
theorem fn_it (F : FunD K x qual params body scope [] kws g fd) (S : FnScope N ps scope) (hp : ps.length = 1) (hB : Binds K fd ps [])
    (hbody : ∀ (cdv : Value) (A : Around) (outer : List Env) (s : Shared) (H : Hp) (a dx : Addr) (fs : List (Str × V)) (t : Addr) (zs : List V), Room k (A.deeper (envOfC qual scope s.heap.objs.size g cdv)) → H a = some (.ins C dx fs) → fs.lookup fld = some (.ref t) → SqT K H t zs → ∀ Q : VK,
      (∀ it, s.heap.objs.size ≤ it → H it = none → Q (.ref it) (upd H it (ItT t it))) →
      ∃ tr, PSs (cxOf CX0 P w K mg base N qual scope g cdv A outer s H E0) body tr ∧ tr { nx := fun _ H' => Q .non H', rt := Q } (L2.start N [.ref a]) H) : FnIt P w K mg base (k + 1) g C fld := by
  intro A outer s H a dx fs t zs hr e0 ha hl ht
  obtain ⟨oc, od, dV, kV, doc, pm, an, cdv, ct, osl, rfl, lk, hcd, _, _⟩ := F.ex
  have KX : K.In s.heap := e0.mod.kin.keeps fun b o e => (e0.bs b o e).1
  have lim : s.heap.NoLimit := e0.mod.nolimit.keeps fun b o e => (e0.bs b o e).1
  have hb : BindsTo s (PySem.W.fnOf x qual params body scope dV kV doc pm an cdv ct) ⟨[.ref a], []⟩ (ps.zip [.ref a]) := by
    have := hB s [.ref a] KX (by simp [hp])
    simpa using this
  have hkind : ∀ y ∈ ps.zip [Value.ref a], scope.names.lookup y.1 = some .local ∨ (scope.names.lookup y.1 = some .cell ∧ ((cellsFrom (s.heap.objs.size + 1) scope.names []).lookup y.1).isSome = true) := fun ⟨n, v⟩ hy => by
    rcases S.par n (List.of_mem_zip hy).1 with q | q
    · exact .inl q
    · exact .inr ⟨q, PySem.W.cellsFrom_some _ _ _ (.inl q)⟩
  refine codeAny_call_function hr.depth (KX _ _ lk) rfl S.co S.gen rfl (PySem.W.codeRec_of KX hcd) (hb _ _ _ _ ?_)
  refine wpAny_newFunctionEnv_cells S.kind hkind fun env he s1 x => ?_
  subst he
  refine ⟨lim.keeps x.toInCall.keep, codeAny_func ?_⟩
  obtain ⟨tr, ht', hq⟩ := hbody cdv A outer s H a dx fs t zs (hr.deeper _) ha hl ht (fun v H' => ∃ it, v = .ref it ∧ s.heap.objs.size ≤ it ∧ H it = none ∧ H' = upd H it (ItT t it)) fun it h1 h2 => ⟨it, rfl, h1, h2, rfl⟩
  have I : L2.Inv (cxOf CX0 P w K mg base N qual scope g cdv A outer s H E0) [] (L2.start N [.ref a]) H s1 := inv_start S hr.hd e0 (by simp [hp]) (.cons rfl .nil) x
  refine wpAny_mono (ht'.run [] s1 _ H _ I hq) (fun fl s' hs => ?_) fun e s' hs => hs
  cases fl with
  | ret u =>
    obtain ⟨v, σ', H', J, rv, q⟩ := hs
    exact ⟨v, H', J.os, J.bare, J.base, J.hok, rv, q⟩
  | next =>
    obtain ⟨σ', H', J, it, e, _⟩ := hs
    cases e
  | brk =>
    obtain ⟨_, _, _, q⟩ := hs
    exact False.elim q
  | cont =>
    obtain ⟨_, _, _, q⟩ := hs
    exact False.elim q
end
section
variable {X : Cx} {pins : List (Addr × Obj)} {σ : L2.St} {H : Hp} {s : Shared} {C g gl t a dx q : Addr} {n : Nat} {sp : Sp} {fld : Str} {fs : List (Str × V)} {zs : List V}
theorem itT_ok {P : Program} {w : World} {H : Hp} {h : Heap} {it : Addr} (e : h.get? it = some ({ cls := .type "tuple_iterator", data := .fields #[.ref t, .int 0 0] } : Obj)) : ObjOk P w H h it (ItT t it) := ⟨e, ⟨_, e⟩, fun h1 h2 q k => k _ q⟩
theorem call_iterT : CallR X (.builtin "iter") (rIterT X.K X.s_0.heap.objs.size) := by
  intro pins s σ H xs us Q I r h
  obtain ⟨l, zs, rfl, hq, q⟩ := h
  obtain ⟨u, rfl, ru⟩ := r.one
  cases ru
  obtain ⟨its, rv, pl, hz⟩ := I.tuple hq
  refine Calls.call_function_entry (by decide +kernel) (by decide +kernel) PySem.W.kdk_entry_iter (PySem.W.kdk_args_iter _) ?_
  unfold Builtin.«iter»
  refine wpAny_bind (m := someArgs "iter" 1 2 _) (wpAny_of_eq (a := [Value.ref l]) (by first | rfl | kernel_rfl!) ?_)
  show wpAny _ _ (pyIter (.ref l) >>= _) _ _ _
  refine wpAny_bind (wpAny_pyIter_tuple (show s.heap.IsTuple l its.toArray from pl) ?_)
  refine wpAny_pure ⟨_, rfl, ?_⟩
  exact ⟨.ref s.heap.objs.size, _, I.laid (t' := s.toks) (fun b u e => Heap.get?_push_of_some _ e) (Nat.le_refl _) (itT_ok (Heap.get?_push_size _ rfl)), rfl, q _ (I.hok.fresh (Nat.le_refl _)) I.sz⟩
/-- the iterator of an own instance comes -/
theorem pyIter_own1 {A : Around} (hs : PySem.W.findIn X.K (.ref C) "__iter__" = some (some (.ref g))) (hf : PySem.W.isFn X.K (.ref g) = true) (Fi : FnIt X.prog X.w X.K X.mg X.base n g C fld) (sb : Sub X n A)
    (I : Inv X pins σ H s) (ha : H a = some (.ins C dx fs)) (hl : fs.lookup fld = some (.ref t)) (ht : SqT X.K H t zs) :
    wpAny (model X.prog X.w) A (pyIter (.ref a)) (fun v s' => ∃ it, v = .ref it ∧ X.s_0.heap.objs.size ≤ it ∧ H it = none ∧ Inv X pins σ (upd H it (ItT t it)) s') X.xe s := by
  obtain ⟨od, J⟩ := inst_of I ha
  obtain ⟨m, hF⟩ := I.fr
  have e0 : Env0 X.prog X.w X.K X.mg X.base A X.stack s H := by
    have e := I.env0
    exact ⟨by rw [sb.fr]; exact e.frames, e.mod, e.bs, e.bsz, e.funs, e.frf, e.hok, e.bare⟩
  refine PySem.W.owit_iter hF I.ok.mod.kin J hs hf (wpAny_call (codeAny_mono (Fi A X.stack s H a dx fs t zs sb.room e0 ha hl ht) fun r s' hq => ?_))
  cases r with
  | error e => exact pass0 pins σ H s e s' I hq
  | ok fl =>
    cases fl with
    | next => exact False.elim hq
    | brk => exact False.elim hq
    | cont => exact False.elim hq
    | ret u =>
      obtain ⟨v2, H2, I2, rv2, it, ev2, young, hn, eH⟩ := I.after hq
      subst ev2
      cases rv2
      subst eH
      have obj := (I2.hok it _ (upd_same (H := H) (o := ItT t it))).1
      have st : s'.heap.IsTupleIter it t 0 := ⟨_, obj, rfl, rfl⟩
      unfold PySem.W.OwitIt
      refine wpAny_specialOf st.typeIs F.slot_tuple_iterator_next.lookup ?_
      exact ⟨it, rfl, Nat.le_trans I.sz young, hn, I2⟩
theorem it_off {it : Addr} (hn : H it = none) (hy : X.s_0.heap.objs.size ≤ it) (I : Inv X pins σ (upd H it (ItT t it)) s) : s.heap.IsTupleIter it t 0 ∧ Inv X pins σ H s ∧ FpOk X pins H it := by
  have hit : upd H it (ItT t it) it = some (ItT t it) := upd_same
  have obj := (I.hok it _ hit).1
  have I3 := ItX.inv_drop I hit
  have f3 := ItX.inv_fp I hit hy
  rw [ItX.dropH_upd hn] at I3 f3
  exact ⟨⟨_, obj, rfl, rfl⟩, I3, f3⟩
/-- for x in e, e an own instance -/
def iOwn (K : PySem.W.Frag) (C : Addr) (fld : Str) (te : TE) : TI := fun σ H R => te σ H fun x H1 => ∃ a dx fs t zs, x = .ref a ∧ H1 a = some (.ins C dx fs) ∧ fs.lookup fld = some (.ref t) ∧ SqT K H1 t zs ∧ R (Itt K t) H1
theorem pi_own {tg e : Expr} {te : TE} (hs : PySem.W.findIn X.K (.ref C) "__iter__" = some (some (.ref g))) (hf : PySem.W.isFn X.K (.ref g) = true) (Fi : FnIt X.prog X.w X.K X.mg X.base n g C fld) (hr : Room n X.A) (he : PE X e te) : PI X tg e (iOwn X.K C fld te) := by
  refine ⟨fun pins s σ H R I h => ?_⟩
  refine thn (he.run pins s σ H _ I h) fun u s1 ⟨v, H1, I1, r1, a, dx, fs, t, zs, ev, ha, hl, ht, q⟩ => ?_
  subst ev
  cases r1
  refine wpAny_mono (pyIter_own1 hs hf Fi ⟨hr, rfl⟩ I1 ha hl ht) (fun w s2 ⟨it, e1, hy, hn, I2⟩ => ?_) fun _ _ x => x
  subst e1
  obtain ⟨st, I2, f2⟩ := it_off hn hy I2
  exact ⟨it, [it], _, _, H1, rfl, I2, turn_tuple t it, st, fun b hb => by rw [show b = it from by simpa using hb]; exact f2, q⟩

/-! ### list(o) -/
/-- what an own __len__ promises that tells the items of the tuple in the field -/
def spLn (K : PySem.W.Frag) (C : Addr) (fld : Str) : Sp := fun vs H Q _ => ∃ a dx fs t zs, vs = [.ref a] ∧ H a = some (.ins C dx fs) ∧ fs.lookup fld = some (.ref t) ∧ SqT K H t zs ∧ Q (.int (zs.length : Nat)) H
theorem own_hintL {A : Around} {Q : Bool → Shared → Prop} {E : Value → Shared → Prop} (hs : PySem.W.findIn X.K (.ref C) "__len__" = some (some (.ref gl))) (hf : PySem.W.isFn X.K (.ref gl) = true) (Fl : FnR X.prog X.w X.K X.mg X.base CX0 n gl (spLn X.K C fld)) (sb : Sub X (n + 1) A)
    (I : Inv X pins σ H s) (ha : H a = some (.ins C dx fs)) (hl : fs.lookup fld = some (.ref t)) (ht : SqT X.K H t zs) (h : ∀ b s', Inv X pins σ H s' → Q b s') : wpAny (model X.prog X.w) A (Builtin.List.listLengthHint (.ref a)) Q E s := by
  obtain ⟨od, J⟩ := inst_of I ha
  obtain ⟨m, hF⟩ := I.fr
  have hzs : zs.length ≤ sizeLine := by
    obtain ⟨its, r, p, hz⟩ := I.tuple ht
    have := r.length
    omega
  have e0 : Env0 X.prog X.w X.K X.mg X.base A.in1 X.stack s H := by
    have e := I.env0
    exact ⟨by rw [(Sub.in1 sb).fr]; exact e.frames, e.mod, e.bs, e.bsz, e.funs, e.frf, e.hok, e.bare⟩
  have hcall : wpAny (model X.prog X.w) A (call (.builtin "len") [.ref a]) (fun v s' => ∃ k t, v = .int k t ∧ 0 ≤ k ∧ k.toNat ≤ sizeLine ∧ Inv X pins σ H s') (fun _ _ => False) s := by
    refine PySem.W.len_K hF I.ok.mod.kin J hs hf (wpAny_call (codeAny_mono (Fl A.in1 X.stack s H [.ref a] [.ref a] (fun v H' => v = .int (zs.length : Nat) ∧ H' = H) E0 (Sub.in1 sb).room e0 (.cons rfl .nil) ⟨a, dx, fs, t, zs, rfl, ha, hl, ht, rfl, rfl⟩) fun r s' hq => ?_))
    cases r with
    | error e => exact hq
    | ok fl =>
      cases fl with
      | next => exact False.elim hq
      | brk => exact False.elim hq
      | cont => exact False.elim hq
      | ret u =>
        obtain ⟨v2, H2, I2, rv2, ev2, eH⟩ := I.after hq
        subst ev2
        subst eH
        obtain ⟨tk, e⟩ := (show ∃ tk, u = Value.int (zs.length : Nat) tk from rv2)
        subst e
        have := sizeLine_eq
        exact ⟨⟨by omega, by omega⟩, _, _, rfl, by omega, by omega, I2.tok _⟩
  unfold Builtin.List.listLengthHint
  refine wpAny_bind (wpAny_bind (J.type.here ((PySem.W.looks_findIn I.kIn hs).here ?_)))
  refine PySem.W.KFB.if_not rfl ?_
  refine PySem.W.KFB.if_so rfl ?_
  refine wpAny_bind (wpAny_rule ?_)
  refine wpAny_bind (wpAny_attempt (wpAny_mono hcall (fun v s' z => ?_) fun e s' z => z.elim))
  obtain ⟨k, t, rfl, h0, h1, I'⟩ := z
  refine wpAny_bind (wpAny_of_eq (a := some k) (by first | rfl | kernel_rfl) ?_)
  refine PySem.W.KFB.if_not (by show decide (k.toNat > sizeLine) = false; exact decide_eq_false (by omega)) ?_
  exact wpAny_pure (h _ _ I')
theorem loop_own {A1 : Around} {Rs : Result → Shared → Prop} {it : Addr} (sb : Sub X n A1.in1) (hdone : ∀ s, Inv X pins σ (upd H q (.lst zs)) s → Rs (.ok (.ret .none)) s) (hz : zs.length ≤ sizeLine) (hc : X.calm = true) (hqa : H q = none) (ht : SqT X.K H t zs) :
    ∀ (m i : Nat) (s : Shared), zs.length - i = m → i ≤ zs.length → Inv X pins σ (upd H q (.lst (zs.take i))) s → s.heap.IsTupleIter it t i → FpOk X pins (upd H q (.lst (zs.take i))) it →
      codeAny (model X.prog X.w) A1 (.builtin "list.extend.loop" ⟨[.ref q, .ref it, .none], []⟩) Rs s := by
  intro m
  induction m with
  | zero =>
    intro i s hm hi I st fp
    have e : i = zs.length := by omega
    subst e
    refine codeAny_builtin PySem.F.entry_extend_loop ?_
    rw [Around.under_plainId PySem.F.plain_extend_loop _]
    show wpAny _ A1.in1 (pyNext (.ref it) >>= _) _ _ s
    have ht2 : SqT X.K (upd H q (.lst (zs.take zs.length))) t zs := ht.ext fun b o e => by rw [upd_ne (ne_of_none e hqa)]; exact e
    obtain ⟨its, rv, p, hz'⟩ := I.tuple ht2
    have hl := rv.length
    obtain ⟨f0, f1, f2, f3, f4, f5⟩ := fp
    refine wpAny_bind (wpAny_pyNext_tuple_end sb.room.hd st (show s.heap.IsTuple t its.toArray from p) (by simp; omega) fun h' eb => ?_)
    refine wpAny_pure (hdone _ ?_)
    rw [List.take_length] at I
    rw [List.take_length] at f0
    exact I.turned (t' := s.toks) (fun b o hb e => eb b o hb e) f0 f1 f3 f4 f5
  | succ m ih =>
    intro i s hm hi I st fp
    have hlt : i < zs.length := by omega
    refine codeAny_builtin PySem.F.entry_extend_loop ?_
    rw [Around.under_plainId PySem.F.plain_extend_loop _]
    show wpAny _ A1.in1 (pyNext (.ref it) >>= _) _ _ s
    have ht2 : SqT X.K (upd H q (.lst (zs.take i))) t zs := ht.ext fun b o e => by rw [upd_ne (ne_of_none e hqa)]; exact e
    obtain ⟨its, rv, p, hz'⟩ := I.tuple ht2
    obtain ⟨u, hu, ru⟩ := rv.get (List.getElem?_eq_getElem hlt)
    obtain ⟨f0, f1, f2, f3, f4, f5⟩ := id fp
    refine wpAny_bind (wpAny_pyNext_tuple_item st (show s.heap.IsTuple t its.toArray from p) (x := u) (by simpa using hu) fun h' st' sb' => ?_)
    have I1 : Inv X pins σ _ { s with heap := h' } := I.turned (t' := s.toks) (fun b o hb e => (sb'.2 b hb).trans e) f0 f1 f3 f4 f5
    show wpAny _ A1.in1 (updateSeq q (·.push u) >>= _) _ _ _
    obtain ⟨z, its2, k, r2, hl2, e⟩ := I1.lstM upd_same
    have nq : it ≠ q := fun z => by
      rw [z, upd_same] at f0
      cases f0
    refine wpAny_bind (wpAny_updateSeq e rfl (wpAny_pure ⟨plainId_quiet PySem.F.plain_extend_loop _, ?_⟩) (by rw [List.size_toArray]; omega) (by show (its2.toArray.push u).size ≤ sizeLine + 1; rw [Array.size_push, List.size_toArray]; omega))
    have e1 : zs.take (i + 1) = zs.take i ++ [zs[i]] := by rw [List.take_succ, List.getElem?_eq_getElem hlt]; rfl
    have I2 := I1.lset (its' := its2 ++ [u]) (t' := s.toks) (ys := zs.take (i + 1)) (f := (·.push u)) upd_same e (by simp) (by rw [e1]; exact r2.append (.cons ru .nil)) (by rw [List.length_take]; omega)
    rw [upd_upd] at I2
    refine ih (i + 1) _ (by omega) hlt I2 ?_ ?_
    · obtain ⟨o, ho, r⟩ := st'
      exact ⟨o, (Heap.get?_update_other _ (Obj.mapSeq _) (Ne.symm nq)).trans ho, r⟩
    · exact ⟨by rw [upd_ne nq]; rw [upd_ne nq] at f0; exact f0, f1, f2, f3, f4, f5⟩
/-- list(o): a new list of the items of the tuple in the field -/
def rListO (K : PySem.W.Frag) (C : Addr) (fld : Str) : List V → Hp → VK → Prop := fun xs H Q => ∃ a dx fs t zs, xs = [.ref a] ∧ H a = some (.ins C dx fs) ∧ fs.lookup fld = some (.ref t) ∧ SqT K H t zs ∧ ∀ H' q, Evl.Ex H H' → H' q = none → Q (.ref q) (upd H' q (.lst zs))
theorem call_listO (hc : X.calm = true) (hs : PySem.W.findIn X.K (.ref C) "__iter__" = some (some (.ref g))) (hf : PySem.W.isFn X.K (.ref g) = true) (Fi : FnIt X.prog X.w X.K X.mg X.base n g C fld)
    (hsl : PySem.W.findIn X.K (.ref C) "__len__" = some (some (.ref gl))) (hfl : PySem.W.isFn X.K (.ref gl) = true) (Fl : FnR X.prog X.w X.K X.mg X.base CX0 n gl (spLn X.K C fld)) (hr : Room (n + 3) X.A) : CallR X (.type "list") (rListO X.K C fld) := by
  intro pins s σ H xs us Q I rv h
  obtain ⟨a, dx, fs, t, zs, rfl, ha, hl, ht, hq⟩ := h
  obtain ⟨u, rfl, ru⟩ := rv.one
  cases ru
  have hzs : zs.length ≤ sizeLine := by
    obtain ⟨its, r, p, hz⟩ := I.tuple ht
    have := r.length
    omega
  have sb3 : Sub X (n + 1) X.A.in1.in1 := (Sub.in1 (Sub.in1 (⟨hr, rfl⟩ : Sub X (n + 1 + 2) X.A)))
  refine callType_codes (Q₁ := fun obj s₁ => obj = .ref s.heap.objs.size ∧ s₁ = { s with heap := s.heap.push { cls := .type "list", data := .seq #[] } }) PySem.F.called_list (PySem.F.typeCall_list_1 _) PySem.F.entry_list_init
    (code_list_new _ ⟨rfl, rfl⟩) fun obj s₁ h₁ => ?_
  obtain ⟨rfl, rfl⟩ := h₁
  have hS : (s.heap.push { cls := .type "list", data := .seq #[] }).get? s.heap.objs.size = some { cls := .type "list", data := .seq #[] } := Heap.get?_push_size _ rfl
  refine ⟨⟨_, hS, rfl⟩, PySem.F.args_list_init_2 _ _, ?_⟩
  have fr : H s.heap.objs.size = none := I.hok.fresh (Nat.le_refl _)
  have I1 : Inv X pins σ (upd H s.heap.objs.size (.lst [])) { s with heap := s.heap.push { cls := .type "list", data := .seq #[] } } := I.lnew (its := []) (t' := s.toks) .nil (Nat.zero_le _)
  show wpAny _ _ (do let old ← Builtin.List.listItems (.ref s.heap.objs.size); Builtin.List.listUpdate (.ref s.heap.objs.size) (fun _ => #[]); letGo old.toList.reverse; Builtin.List.listExtendWith (.ref s.heap.objs.size) (.ref a) .none) _ _ _
  refine wpAny_bind ?_
  unfold Builtin.List.listItems
  refine wpAny_bind (wpAny_seqItems hS rfl (wpAny_pure ?_))
  show wpAny _ _ (updateSeq s.heap.objs.size (fun _ => #[]) >>= fun _ => letGo (#[] : Array Value).toList.reverse >>= fun _ => Builtin.List.listExtendWith (.ref s.heap.objs.size) (.ref a) .none) _ _ _
  refine wpAny_bind (wpAny_updateSeq hS rfl ?_)
  have I2 := I1.lset (f := fun _ => #[]) (its := []) (its' := []) (ys := []) (t' := s.toks) upd_same hS rfl .nil (Nat.zero_le _)
  rw [upd_upd] at I2
  refine wpAny_bind (wpAny_letGo ?_)
  generalize s.heap.objs.size = q at fr I2 ⊢
  generalize hs2 : ({ s with heap := _ } : Shared) = s2 at I2 ⊢
  have ha2 : upd H q (.lst []) a = some (.ins C dx fs) := by rw [upd_ne (ne_of_none ha fr)]; exact ha
  have ht2 : SqT X.K (upd H q (.lst [])) t zs := ht.ext fun b o e => by rw [upd_ne (ne_of_none e fr)]; exact e
  have hne : q ≠ a := fun z => by rw [← z, fr] at ha; cases ha
  obtain ⟨od, J⟩ := inst_of I2 ha2
  unfold Builtin.List.listExtendWith
  refine wpAny_bind (J.type.here ?_)
  have h1 : Builtin.List.listSameRef (.ref q) (.ref a) = false := by simp [Builtin.List.listSameRef, hne]
  have h2 : (Value.ref C == Value.type "list") = false := rfl
  have h3 : (Value.ref C == Value.type "tuple") = false := rfl
  simp only [h1, h2, h3, Bool.or_false, Bool.false_eq_true, if_false]
  refine wpAny_bind (wpAny_mono (pyIter_own1 hs hf Fi (sb3.mono (Nat.le_succ n)) I2 ha2 hl ht2) (fun v s3 ⟨it, e1, hy, hn, I3⟩ => ?_) fun _ _ x => x)
  subst e1
  have up : ∀ {b : Addr} {o : HO}, upd H q (.lst []) b = some o → upd (upd H q (.lst [])) it (ItT t it) b = some o := fun {b o} e => by rw [upd_ne (ne_of_none e hn)]; exact e
  refine wpAny_bind (wpAny_holding (own_hintL hsl hfl Fl sb3 I3 (up ha2) hl (ht2.ext fun b o e => up e) fun b s4 I4 => ?_))
  obtain ⟨st, I5, f5⟩ := it_off hn hy I4
  have fin : ∀ s6, Inv X pins σ (upd H q (.lst zs)) s6 → wants (fun r s₂ => r = .none ∧ EP X pins σ Q (.ref q) s₂) X.xe (.ok (.ret .none)) s6 := fun s6 I6 => ⟨rfl, .ref q, _, I6, rfl, hq H q (Evl.Ex.refl H) fr⟩
  refine wpAny_ite_split (fun _ => ?_) (fun _ => wpAny_pure ⟨plainId_quiet PySem.F.plain_extend_loop _, loop_own (sb3.mono (Nat.le_succ n)) fin hzs hc fr ht _ 0 s4 rfl (Nat.zero_le _) I5 st f5⟩)
  refine wpAny_bind (wpAny_rule ?_)
  refine wpAny_bind ?_
  obtain ⟨z, its, k, r3, hl3, e3⟩ := I5.lstM upd_same
  cases r3
  show wpAny _ _ (updateSeq q (·.push .none) >>= fun _ => updateSeq q (·.pop)) _ _ _
  refine wpAny_bind (wpAny_updateSeq e3 rfl ?_)
  have I6 := I5.lset (f := (·.push Value.none)) (its' := [Value.none]) (ys := [.non]) (t' := s4.toks) upd_same e3 (by simp) (.cons rfl .nil) (by rw [List.length_singleton, sizeLine_eq]; decide)
  obtain ⟨z4, its4, k4, r4, hl4, e4⟩ := I6.lstM upd_same
  obtain ⟨u4, rfl, ru4⟩ := r4.one
  refine wpAny_updateSeq e4 rfl ?_ (by show 1 ≤ sizeLine; rw [sizeLine_eq]; decide) (by show 0 ≤ sizeLine + 1; exact Nat.zero_le _)
  have I7 := I6.lset (f := (·.pop)) (its := [u4]) (its' := []) (ys := []) (t' := s4.toks) upd_same e4 (by rfl) .nil (Nat.zero_le _)
  rw [upd_upd, upd_upd] at I7
  have nq : it ≠ q := fun z => by
    have := f5.1
    rw [z, upd_same] at this
    cases this
  refine wpAny_pure ⟨plainId_quiet PySem.F.plain_extend_loop _, loop_own (sb3.mono (Nat.le_succ n)) fin hzs hc fr ht _ 0 _ rfl (Nat.zero_le _) I7 ?_ f5⟩
  obtain ⟨o, ho, r⟩ := st
  exact ⟨o, (Heap.get?_update_other _ (Obj.mapSeq _) (Ne.symm nq)).trans ((Heap.get?_update_other _ (Obj.mapSeq _) (Ne.symm nq)).trans ho), r⟩
end
end Ow
end
section
/-! More rules: operators, methods, instances made. -/
namespace Ty
open PySem PySem.Spec PyProof.Rows L2
open Evl (Ex)

section
variable {K : PySem.W.Frag} {i j : Int} {Ps Qs : List Pd} {P P1 P2 : Pd}
theorem o_rI {C : Int → Int → Prop} {g : Int → Int → V} (h : C i j) : OpT (rI C g) (IsI i) (IsI j) (Is (g i j)) := fun x y G H Q e p1 p2 k => ⟨i, j, p1, p2, h, k _ G H (Step.refl e) rfl⟩
theorem o_rI0 {g : Int → Int → V} : OpT (rI0 g) (IsI i) (IsI j) (Is (g i j)) := fun x y G H Q e p1 p2 k => ⟨i, j, p1, p2, k _ G H (Step.refl e) rfl⟩
theorem u_rU {g : Int → V} : UnT (rU g) (IsI i) (Is (g i)) := fun x G H Q e p k => ⟨i, p, k _ G H (Step.refl e) rfl⟩
theorem o_eq {u v : V} (h : scal u v = true) : OpT rEq (Is u) (Is v) (IsB (decide (u = v))) := fun x y G H Q e p1 p2 k => by cases p1; cases p2; exact ⟨h, k _ G H (Step.refl e) rfl⟩
theorem o_ne {u v : V} (h : scal u v = true) : OpT rNe (Is u) (Is v) (IsB (!decide (u = v))) := fun x y G H Q e p1 p2 k => by cases p1; cases p2; exact ⟨h, k _ G H (Step.refl e) rfl⟩
theorem atI_nat {α : Type} {xs : List α} {k : Nat} {x : α} (h : xs[k]? = some x) : atI xs (k : Int) = some x := by
  obtain ⟨hl, _⟩ := List.getElem?_eq_some_iff.mp h
  unfold atI ixN
  rw [if_pos (by omega), if_pos (by omega)]
  simpa using h
theorem atI_last {α : Type} {xs : List α} {x : α} (h : xs.getLast? = some x) : atI xs (-1) = some x := by
  have hl : 0 < xs.length := by
    cases xs with
    | nil => cases h
    | cons _ _ => simp
  unfold atI ixN
  rw [if_neg (by omega), if_pos (by omega)]
  rw [List.getLast?_eq_getElem?] at h
  have e : ((-1 : Int) + (xs.length : Int)).toNat = xs.length - 1 := by omega
  simpa [e] using h
theorem AllP.atI {G : Hp} {vs : List V} (h : AllP Ps vs G) (hi : atI Ps i = some P) : ∃ v, atI vs i = some v ∧ P.p v G := by
  unfold L2.atI at hi ⊢
  rw [h.length]
  cases e : ixN Ps.length i with
  | none => rw [e] at hi; cases hi
  | some n =>
    rw [e] at hi
    exact h.get hi
/-- x[i], x a list or a tuple -/
theorem o_ixL (hi : atI Ps i = some P) : OpT (rIx K) (Ls Ps) (IsI i) P := fun x y G H Q e p1 p2 k => by
  obtain ⟨a, xs, rfl, hx, hp⟩ := p1
  obtain ⟨v, hv, pv⟩ := hp.atI hi
  exact .inl ⟨a, xs, i, v, rfl, p2, SqL.of (e _ _ hx), hv, k v G H (Step.refl e) pv⟩
theorem o_ixT (hi : atI Ps i = some P) : OpT (rIx K) (Tp Ps) (IsI i) P := fun x y G H Q e p1 p2 k => by
  obtain ⟨a, xs, rfl, hx, hp⟩ := p1
  obtain ⟨v, hv, pv⟩ := hp.atI hi
  exact .inr (.inl ⟨a, xs, i, v, rfl, p2, SqT.of (e _ _ hx), hv, k v G H (Step.refl e) pv⟩)
theorem o_ixS {z : Str} {c : Nat} (hz : z.length ≤ sizeLine) (hi : atI z.cps.toList i = some c) : OpT (rIx K) (Is (.str z)) (IsI i) (Is (.str ⟨#[c]⟩)) := fun x y G H Q e p1 p2 k =>
  .inr (.inr ⟨z, i, c, p1, p2, hz, hi, k _ G H (Step.refl e) rfl⟩)
/-- + of two lists: a new list -/
theorem o_cat (hz : Ps.length + Qs.length ≤ sizeLine) : OpT rCat (Ls Ps) (Ls Qs) (Ls (Ps ++ Qs)) := fun x y G H Q e p1 p2 k => by
  obtain ⟨a, xs, rfl, hx, hp⟩ := p1
  obtain ⟨b, ys, rfl, hy, hq⟩ := p2
  refine ⟨a, b, xs, ys, rfl, rfl, e _ _ hx, e _ _ hy, by rw [hp.length, hq.length]; exact hz, fun p hn => ?_⟩
  have t : Step none G H (upd G p (.lst (xs ++ ys))) (upd H p (.lst (xs ++ ys))) := Step.new e hn
  exact k _ _ _ t ⟨p, _, rfl, upd_same, (hp.append hq).mono t.k⟩
/-- + of two tuples, not empty -/
theorem o_catT (hz : Ps.length + Qs.length ≤ sizeLine) : OpT (L2.rCatA K) (Tp Ps) (Tp Qs) (Tp (Ps ++ Qs)) := fun x y G H Q e p1 p2 k => by
  obtain ⟨a, xs, rfl, hx, hp⟩ := p1
  obtain ⟨b, ys, rfl, hy, hq⟩ := p2
  refine ⟨a, b, xs, ys, rfl, rfl, SqT.of (e _ _ hx), SqT.of (e _ _ hy), by rw [hp.length, hq.length]; exact hz, fun h0 => ?_, fun h0 h1 => ?_, fun h0 h1 p hn => ?_⟩
  · subst h0
    have : Ps = [] := List.length_eq_zero_iff.mp (by rw [← hp.length]; rfl)
    subst this
    exact k _ G H (Step.refl e) ⟨b, ys, rfl, hy, hq⟩
  · subst h1
    have : Qs = [] := List.length_eq_zero_iff.mp (by rw [← hq.length]; rfl)
    subst this
    exact k _ G H (Step.refl e) ⟨a, xs, rfl, hx, by rw [List.append_nil]; exact hp⟩
  · have t : Step none G H (upd G p (.tup (xs ++ ys))) (upd H p (.tup (xs ++ ys))) := Step.new e hn
    exact k _ _ _ t ⟨p, _, rfl, upd_same, (hp.append hq).mono t.k⟩
/-- own operators of two instances -/
theorem o_own {C : Addr} {Fs Fs' : List (Str × Pd)} {D : Type} {A : D → List Pd} {S : D → Prop} {R : D → Pd} (d : D) (hA : A d = [In C Fs, In C Fs']) (hs : S d) : OpT (Ow.r2O C (SpD A S R)) (In C Fs) (In C Fs') (R d) := fun x y G H Q e p1 p2 k => by
  obtain ⟨a, dx, vs, e1, h1, q1⟩ := id p1
  obtain ⟨b, dy, ws, e2, h2, q2⟩ := id p2
  subst e1 e2
  exact ⟨a, dx, _, b, dy, _, rfl, e _ _ h1, rfl, e _ _ h2, d, G, hs, e, by rw [hA]; exact ⟨p1, p2, trivial⟩, fun v G' H' t r => k v G' H' t r⟩
theorem o_ownNe {C : Addr} {Fs Fs' : List (Str × Pd)} {D : Type} {A : D → List Pd} {S : D → Prop} {R : D → Pd} (d : D) {b : Bool} (hA : A d = [In C Fs, In C Fs']) (hs : S d) (hR : R d = IsB b) : OpT (Ow.rNeO C (SpD A S R)) (In C Fs) (In C Fs') (IsB (!b)) := fun x y G H Q e p1 p2 k => by
  obtain ⟨a, dx, vs, e1, h1, q1⟩ := id p1
  obtain ⟨b', dy, ws, e2, h2, q2⟩ := id p2
  subst e1 e2
  refine ⟨a, dx, _, b', dy, _, rfl, e _ _ h1, rfl, e _ _ h2, d, G, hs, e, by rw [hA]; exact ⟨p1, p2, trivial⟩, fun v G' H' t r => ?_⟩
  rw [hR] at r
  exact ⟨b, r, k _ G' H' t rfl⟩
theorem u_own {C : Addr} {Fs : List (Str × Pd)} {D : Type} {A : D → List Pd} {S : D → Prop} {R : D → Pd} (d : D) (hA : A d = [In C Fs]) (hs : S d) : UnT (Ow.r1O C (SpD A S R)) (In C Fs) (R d) := fun x G H Q e p1 k => by
  obtain ⟨a, dx, vs, e1, h1, q1⟩ := id p1
  subst e1
  exact ⟨a, dx, _, rfl, e _ _ h1, d, G, hs, e, by rw [hA]; exact ⟨p1, trivial⟩, fun v G' H' t r => k v G' H' t r⟩
theorem o_isN {v : V} : OpT (fun x y H Q => y = .non ∧ Q (.bl (decide (x = .non))) H) (Is v) (Is .non) (IsB (decide (v = .non))) := fun x y G H Q e p1 p2 k => ⟨p2, by cases p1; exact k _ G H (Step.refl e) rfl⟩
theorem o_notN {v : V} : OpT (fun x y H Q => y = .non ∧ Q (.bl (!decide (x = .non))) H) (Is v) (Is .non) (IsB (!decide (v = .non))) := fun x y G H Q e p1 p2 k => ⟨p2, by cases p1; exact k _ G H (Step.refl e) rfl⟩
/-- is None of what is a reference -/
def Rf : Pd := ⟨fun v _ => ∃ a, v = .ref a, fun _ h => h⟩
theorem o_isN' (h : ∀ v G, P.p v G → v ≠ .non) : OpT (fun x y H Q => y = .non ∧ Q (.bl (decide (x = .non))) H) P (Is .non) (IsB false) := fun x y G H Q e p1 p2 k => ⟨p2, by rw [decide_eq_false (h _ _ p1)]; exact k _ G H (Step.refl e) rfl⟩
theorem o_notN' (h : ∀ v G, P.p v G → v ≠ .non) : OpT (fun x y H Q => y = .non ∧ Q (.bl (!decide (x = .non))) H) P (Is .non) (IsB true) := fun x y G H Q e p1 p2 k => ⟨p2, by rw [decide_eq_false (h _ _ p1)]; exact k _ G H (Step.refl e) rfl⟩
/-! ### built-in calls -/
theorem c_len : CaT (fun xs H Q => ∃ p ys, xs = [.ref p] ∧ (SqL K H p ys ∨ SqT K H p ys) ∧ Q (.int ys.length) H) [Sq Ps] (IsI Ps.length) := fun xs G H Q e p k => by
  match xs, p with
  | [v], p =>
    obtain ⟨⟨a, ys, rfl, h, hp⟩, _⟩ := p
    exact ⟨a, ys, rfl, h.elim (fun z => .inl (SqL.of (e _ _ z))) (fun z => .inr (SqT.of (e _ _ z))), by rw [hp.length]; exact k _ G H (Step.refl e) rfl⟩
theorem c_int1 {f : List V → Hp → VK → Prop} (g : Int → V) (h : ∀ i H Q, Q (g i) H → f [.int i] H Q) : CaT f [IsI i] (Is (g i)) := fun xs G H Q e p k => by
  match xs, p with
  | [v], ⟨p, _⟩ => cases p; exact h _ _ _ (k _ G H (Step.refl e) rfl)
theorem AllP.ints {G : Hp} : ∀ {ns : List Int} {vs : List V}, AllP (ns.map IsI) vs G → vs = ns.map V.int
  | [], [], _ => rfl
  | n :: ns, v :: vs, h => by rw [show v = .int n from h.1, AllP.ints h.2]; rfl
  | [], _ :: _, h => h.elim
  | _ :: _, [], h => h.elim
theorem AllP.bls {G : Hp} : ∀ {ns : List Bool} {vs : List V}, AllP (ns.map IsB) vs G → vs = ns.map V.bl
  | [], [], _ => rfl
  | n :: ns, v :: vs, h => by rw [show v = .bl n from h.1, AllP.bls h.2]; rfl
  | [], _ :: _, h => h.elim
  | _ :: _, [], h => h.elim
theorem AllP.strs {G : Hp} : ∀ {ns : List Str} {vs : List V}, AllP (ns.map fun x => Is (.str x)) vs G → vs = ns.map V.str
  | [], [], _ => rfl
  | n :: ns, v :: vs, h => by rw [show v = .str n from h.1, AllP.strs h.2]; rfl
  | [], _ :: _, h => h.elim
  | _ :: _, [], h => h.elim
theorem AllP.of_is {G : Hp} : ∀ {vs : List V}, AllP (vs.map Is) vs G
  | [] => trivial
  | _ :: _ => ⟨rfl, AllP.of_is⟩
theorem c_sum {ns : List Int} : CaT (rSum K) [Ls (ns.map IsI)] (IsI ns.sum) := fun xs G H Q e p k => by
  match xs, p with
  | [v], p => obtain ⟨⟨a, ys, rfl, h, hp⟩, _⟩ := p; rw [hp.ints] at h; exact ⟨a, ns, rfl, SqL.of (e _ _ h), k _ G H (Step.refl e) rfl⟩
theorem c_all {bs : List Bool} : CaT (rAll K) [Ls (bs.map IsB)] (IsB (bs.all id)) := fun xs G H Q e p k => by
  match xs, p with
  | [v], p => obtain ⟨⟨a, ys, rfl, h, hp⟩, _⟩ := p; rw [hp.bls] at h; exact ⟨a, bs, rfl, SqL.of (e _ _ h), k _ G H (Step.refl e) rfl⟩
theorem c_max {ns : List Int} {m : Int} (h0 : 0 < ns.length) (hm : ∀ m', m' ∈ ns → (∀ y, y ∈ ns → y ≤ m') → m' = m) : CaT (rMax K) [Ls (ns.map IsI)] (IsI m) := fun xs G H Q e p k => by
  match xs, p with
  | [v], p => obtain ⟨⟨a, ys, rfl, h, hp⟩, _⟩ := p; rw [hp.ints] at h; exact ⟨a, ns, rfl, SqL.of (e _ _ h), h0, fun m' h1 h2 => by rw [hm m' h1 h2]; exact k _ G H (Step.refl e) rfl⟩
theorem c_min {ns : List Int} {m : Int} (h0 : 0 < ns.length) (hm : ∀ m', m' ∈ ns → (∀ y, y ∈ ns → m' ≤ y) → m' = m) : CaT (rMin K) [Ls (ns.map IsI)] (IsI m) := fun xs G H Q e p k => by
  match xs, p with
  | [v], p => obtain ⟨⟨a, ys, rfl, h, hp⟩, _⟩ := p; rw [hp.ints] at h; exact ⟨a, ns, rfl, SqL.of (e _ _ h), h0, fun m' h1 h2 => by rw [hm m' h1 h2]; exact k _ G H (Step.refl e) rfl⟩
/-- list(x), tuple(x) of a list or a tuple -/
theorem c_list : CaT (fun xs H Q => ∃ p ys, xs = [.ref p] ∧ (SqL K H p ys ∨ SqT K H p ys) ∧ ∀ l, H l = none → Q (.ref l) (upd H l (.lst ys))) [Sq Ps] (Ls Ps) := fun xs G H Q e p k => by
  match xs, p with
  | [v], p =>
    obtain ⟨⟨a, ys, rfl, h, hp⟩, _⟩ := p
    refine ⟨a, ys, rfl, h.elim (fun z => .inl (SqL.of (e _ _ z))) (fun z => .inr (SqT.of (e _ _ z))), fun l hn => ?_⟩
    have t : Step none G H (upd G l (.lst ys)) (upd H l (.lst ys)) := Step.new e hn
    exact k _ _ _ t ⟨l, ys, rfl, upd_same, hp.mono t.k⟩
theorem c_tuple : CaT (fun xs H Q => ∃ p ys, xs = [.ref p] ∧ ((SqL K H p ys ∧ ∀ l, H l = none → Q (.ref l) (upd H l (.tup ys))) ∨ (SqT K H p ys ∧ Q (.ref p) H))) [Sq Ps] (Tp Ps) := fun xs G H Q e p k => by
  match xs, p with
  | [v], p =>
    obtain ⟨⟨a, ys, rfl, h, hp⟩, _⟩ := p
    refine ⟨a, ys, rfl, ?_⟩
    rcases h with z | z
    · refine .inl ⟨SqL.of (e _ _ z), fun l hn => ?_⟩
      have t : Step none G H (upd G l (.tup ys)) (upd H l (.tup ys)) := Step.new e hn
      exact k _ _ _ t ⟨l, ys, rfl, upd_same, hp.mono t.k⟩
    · exact .inr ⟨SqT.of (e _ _ z), k _ G H (Step.refl e) ⟨a, ys, rfl, z, hp⟩⟩
end
theorem TyA.conv {ι : Type} {X : ι → Cx} {Ga Gb : List Sl} {es : List Expr} {Ps Qs : List Pd} (h : TyA X Ga es Ps Gb) (hp : ∀ vs G, AllP Ps vs G → AllP Qs vs G) : TyA X Ga es Qs Gb := fun q F σ G H I Q k => h q F σ G H I Q fun vs G' H' t I' p => k vs G' H' t I' (hp vs G' p)
theorem AllP.sq1 {Ps Qs : List Pd} {vs : List V} {G : Hp} (h : AllP (Ls Ps :: Qs) vs G) : AllP (Sq Ps :: Qs) vs G := by
  match vs, h with
  | v :: vs, ⟨h1, h2⟩ => exact ⟨Ls.sq h1, h2⟩
theorem AllP.sqT1 {Ps Qs : List Pd} {vs : List V} {G : Hp} (h : AllP (Tp Ps :: Qs) vs G) : AllP (Sq Ps :: Qs) vs G := by
  match vs, h with
  | v :: vs, ⟨h1, h2⟩ => exact ⟨Tp.sq h1, h2⟩
end Ty
end
section
/-! Methods, class methods, instances made, instances called. -/
namespace Ty
open PySem PySem.Spec PyProof.Rows L2
open Evl (Ex)

/-- a method of the class at C, callable by positional values -/
structure Mf (Pr : Program) (w : World) (K : PySem.W.Frag) (mg : Str → Option Value) (base : Heap) (k : Nat) (C : Addr) (m : Str) (sp : Sp) : Prop where
  ex : ∃ f, FnR Pr w K mg base CX0 k f sp ∧ Cls K C ∧ Meth K C m f
/-- a class method of the class at C -/
structure Cm (Pr : Program) (w : World) (K : PySem.W.Frag) (mg : Str → Option Value) (base : Heap) (k : Nat) (C : Addr) (m : Str) (sp : Sp) : Prop where
  ex : ∃ mc p g, FnR Pr w K mg base CX0 k g sp ∧ ClX.CRead K C mc ∧ ClX.CMet K C mc m p g
/-- how instances of the class at C are made -/
structure Mkf (Pr : Program) (w : World) (K : PySem.W.Frag) (mg : Str → Option Value) (base : Heap) (k : Nat) (C : Addr) (sp : Sp) : Prop where
  ex : ∃ f, FnR Pr w K mg base CX0 k f sp ∧ Mk K C f
/-- how instances of the class at C are called -/
structure Cof (Pr : Program) (w : World) (K : PySem.W.Frag) (mg : Str → Option Value) (base : Heap) (k : Nat) (C : Addr) (sp : Sp) : Prop where
  ex : ∃ g, FnR Pr w K mg base CX0 k g sp ∧ StX.CallO K C g
/-- a special method of the class at C -/
structure Sf (Pr : Program) (w : World) (K : PySem.W.Frag) (mg : Str → Option Value) (base : Heap) (k : Nat) (C : Addr) (m : Str) (sp : Sp) : Prop where
  ex : ∃ g, FnR Pr w K mg base CX0 k g sp ∧ PySem.W.findIn K (.ref C) m = some (some (.ref g)) ∧ PySem.W.isFn K (.ref g) = true

theorem Step.made {G H G' H' : Hp} {x dx : Addr} {u1 u2 : HO} (hx : H x = none) (hdx : H dx = none) (hne : dx ≠ x) (t : Step (some x) G (upd (upd H dx u1) x u2) G' H') : Step none G H G' H' := by
  have key : ∀ a o, H a = some o → upd (upd H dx u1) x u2 a = some o := fun a o e => by rw [upd_ne (ne_of_none e hx), upd_ne (ne_of_none e hdx)]; exact e
  refine ⟨t.k, t.s, fun a o _ e => t.f a o (fun z => by cases z; rw [hx] at e; cases e) (key a o e), fun a o e => ?_, fun a e => nomatch e⟩
  rcases t.n a o e with z | z
  · exact .inl z
  · right
    cases c : H a with
    | none => rfl
    | some u => rw [key a u c] at z; cases z

section
variable {ι : Type} {X : ι → Cx} {Ga Gb Gc : List Sl} {e o : Expr} {es : List Expr} {Ps : List Pd} {pos p apos : Pos} {x m : Str} {Pr : Program} {w : World} {K : PySem.W.Frag} {mg : Str → Option Value} {base : Heap} {j k : Nat} {f C : Addr} {sp : Sp} {D : Type} {A : D → List Pd} {S : D → Prop} {R : D → Pd} {M M' : D → Mo} {P P1 : Pd} {Fs Fs1 : List (Str × Pd)}
/-- o.m(e, ..) -/
theorem e_meth {pl : ι → Sem Bool} (fam : Fam X Pr w K mg base j) (F : Mf Pr w K mg base k C m (SpD A S R)) (d : D) (ho : TyE X Ga o (In C Fs) Gb) (ha : TyA X Gb (e :: es) Ps Gc) (hA : A d = In C Fs :: Ps) (hs : S d) (hn : (Fs.map Prod.fst).all (fun y => !(m == y)) = true) (hk : k ≤ j := by decide)
    (hst : ∀ i, starEach (e :: es) (X i).env = (false, eval e (X i).env) :: starEach es (X i).env := by intro i; rfl) (hpl : ∀ i, (backTo pos (starEach es (X i).env)).any (·.1) = false := by intro i; rfl)
    (ht : ∀ i, eval (.Call (.Attribute o m apos) (e :: es) [] pos) (X i).env = (do
      let ov ← eval o (X i).env
      standAt apos.atName
      let (f, first) ← holding [ov] (getMethod ov m (pl i))
      callWith pos f first (backTo pos (starEach (e :: es) (X i).env)) (backToKw pos (keywordEach [] (X i).env))) := by intro i; rfl) :
    TyE X Ga (.Call (.Attribute o m apos) (e :: es) [] pos) (R d) Gc := fun q F' σ G H I Q kk => by
  obtain ⟨g, Fn, c, hm⟩ := F.ex
  refine ⟨tMethR C m (SpD A S R) E0 (uE X o) (uA X (e :: es)), fun i => pe_methR (pl := pl i) (uE_pe i) (by rw [fam.K i]; exact c) (by rw [fam.K i]; exact hm) (by rw [fam.prog i, fam.w i, fam.K i, fam.mg i, fam.base i]; exact Fn) ((fam.room i).mono hk) pass0 (uA_pa i) (hst i) (hpl i) (ht i), ?_⟩
  refine ho q F' σ G H I _ fun v G1 H1 t1 I1 p1 => ?_
  obtain ⟨a, dx, vs, ev, h1, q1⟩ := id p1
  subst ev
  refine ⟨a, dx, _, rfl, I1.sub _ _ h1, lookup_no hn, ?_⟩
  refine ha q F' σ G1 H1 I1 _ fun ws G2 H2 t2 I2 p2 => ?_
  exact ⟨d, G2, hs, I2.sub, by rw [hA]; exact ⟨(In C Fs).mono t2.k p1, p2⟩, fun v G3 H3 t3 r => kk v G3 H3 ((t1.trans t2).trans t3.any) (I2.pure t3) r⟩
/-- o(e, ..), o an instance -/
theorem e_callOb (fam : Fam X Pr w K mg base j) (F : Cof Pr w K mg base k C (SpD A S R)) (d : D) (ho : TyE X Ga o (In C Fs) Gb) (ha : TyA X Gb (e :: es) Ps Gc) (hA : A d = In C Fs :: Ps) (hs : S d) (hk : k ≤ j := by decide)
    (ht : ∀ i, eval (.Call o (e :: es) [] pos) (X i).env = (do callWith pos (← eval o (X i).env) [] (backTo pos (starEach (e :: es) (X i).env)) (backToKw pos (keywordEach [] (X i).env))) := by intro i; rfl)
    (hst : ∀ i, starEach (e :: es) (X i).env = (false, eval e (X i).env) :: starEach es (X i).env := by intro i; rfl) (hpl : ∀ i, (backTo pos (starEach es (X i).env)).any (·.1) = false := by intro i; rfl) :
    TyE X Ga (.Call o (e :: es) [] pos) (R d) Gc := fun q F' σ G H I Q kk => by
  obtain ⟨g, Fn, c⟩ := F.ex
  refine ⟨fun σ H Q => uE X o σ H fun y H1 => ∃ a, y = V.ref a ∧ uA X (e :: es) σ H1 fun vs H2 => ((∃ dx vs, SlX.Slt H2 a C dx vs) ∨ ∃ dx fs, H2 a = some (.ins C dx fs)) ∧ SpD A S R (V.ref a :: vs) H2 Q E0, fun i => ?_, ?_⟩
  · exact StX.pe_callO (X := X i) (pos := pos) (uE_pe i) (by rw [fam.K i]; exact c) (by rw [fam.prog i, fam.w i, fam.K i, fam.mg i, fam.base i]; exact Fn) ((fam.room i).mono hk) pass0 (uA_pa i) (ht i) (hst i) (hpl i)
  · refine ho q F' σ G H I _ fun v G1 H1 t1 I1 p1 => ?_
    obtain ⟨a, dx, vs, ev, h1, q1⟩ := id p1
    subst ev
    refine ⟨a, rfl, ha q F' σ G1 H1 I1 _ fun ws G2 H2 t2 I2 p2 => ⟨.inr ⟨dx, _, I2.sub _ _ (t2.k _ _ h1)⟩, ?_⟩⟩
    exact ⟨d, G2, hs, I2.sub, by rw [hA]; exact ⟨(In C Fs).mono t2.k p1, p2⟩, fun v G3 H3 t3 r => kk v G3 H3 ((t1.trans t2).trans t3.any) (I2.pure t3) r⟩
/-! ### instances made: the promise of __init__ -/
def spMk (C : Addr) (A : D → List Pd) (S : D → Prop) (Fs : D → List (Str × Pd)) : Sp := SpO A S (fun _ => Is .non) (fun _ => Ob C []) (fun d => Ob C (Fs d))
/-- what run_makeR asks -/
theorem mk_made {A : D → List Pd} {S : D → Prop} {Fs : D → List (Str × Pd)} {vs : List V} {G H : Hp} {Q : VK} (d : D) (hs : S d) (e : Ex G H) (hp : AllP (A d) vs G) (k : ∀ v G' H', Step none G H G' H' → (In C (Fs d)).p v G' → Q v H') :
    ∀ x dx, H x = none → H dx = none → dx ≠ x → spMk C A S Fs (V.ref x :: vs) (upd (upd H dx (.own x)) x (.ins C dx [])) (fun v H2 => v = .non ∧ Q (.ref x) H2) E0 := fun x dx hx hdx hne => by
  have ex : Ex G (upd (upd H dx (.own x)) x (.ins C dx [])) := fun a o ea => by
    have := e a o ea
    rw [upd_ne (ne_of_none this hx), upd_ne (ne_of_none this hdx)]
    exact this
  refine ⟨d, G, x, vs, .ins C dx [], rfl, hs, ex, Evl.fresh_back e hx, upd_same, ⟨dx, [], rfl, trivial⟩, hp, fun v G' H' o' t g' ho' m' r => ⟨r, ?_⟩⟩
  have t2 := Step.made hx hdx hne t
  exact k _ _ _ (t2.know hx g' ho') (Ob.known x o' G' g' m')
section
variable {Fs : D → List (Str × Pd)}
/-- C(e, ..), C a class of the module -/
theorem e_mk (fam : Fam X Pr w K mg base j) (F : Mkf Pr w K mg base k C (spMk C A S Fs)) (d : D) (hg : ∀ i, Gl (X i) x) (hm : mg x = some (.ref C)) (ha : TyA X Ga (e :: es) (A d) Gb) (hs : S d) (hk : k + 1 ≤ j := by decide) (hdb : (x == ("__debug__" : Str)) = false := by decide)
    (he : ∀ i, starEach (e :: es) (X i).env = (false, eval e (X i).env) :: starEach es (X i).env := by intro i; rfl) (hpl : ∀ i, (backTo pos (starEach es (X i).env)).any (·.1) = false := by intro i; rfl) :
    TyE X Ga (.Call (.Name x p) (e :: es) [] pos) (In C (Fs d)) Gb := fun q F' σ G H I Q kk => by
  obtain ⟨g, Fn, M⟩ := F.ex
  refine ⟨StX.tMakeR C (spMk C A S Fs) E0 (uA X (e :: es)), fun i => StX.pe_makeR (by rw [fam.K i]; exact M) (by rw [fam.prog i, fam.w i, fam.K i, fam.mg i, fam.base i]; exact Fn) ((fam.room i).mono hk) (hg i) (by rw [fam.mg i]; exact hm) pass0 (uA_pa i) hdb (he i) (hpl i), ?_⟩
  exact ha q F' σ G H I _ fun vs G1 H1 t1 I1 p1 => mk_made d hs I1.sub p1 fun v G2 H2 t2 r => kk v G2 H2 (t1.trans t2.any) (I1.pure t2) r
/-- C( *e) -/
theorem pe_mkS (fam : Fam X Pr w K mg base j) (F : Mkf Pr w K mg base k C sp) (hk : k + 1 ≤ j) (i : ι) {te : TE} {sq : Pos} (hg : Gl (X i) x) (hm : mg x = some (.ref C)) (he : PE (X i) e te) (hdb : (x == ("__debug__" : Str)) = false := by decide) (hst : starEach [.Starred e sq] (X i).env = [(true, eval e (X i).env)] := by rfl) :
    PE (X i) (.Call (.Name x p) [.Starred e sq] [] pos) (fun σ H Q => te σ H fun y H1 => ∃ a xs, y = V.ref a ∧ (SqT K H1 a xs ∨ SqL K H1 a xs) ∧ ∀ x dx, H1 x = Option.none → H1 dx = Option.none → dx ≠ x → sp (V.ref x :: xs) (upd (upd H1 dx (.own x)) x (.ins C dx [])) (fun v H2 => v = .non ∧ Q (.ref x) H2) E0) := by
  obtain ⟨g, Fn, M⟩ := F.ex
  have M' : Mk (X i).K C g := by rw [fam.K i]; exact M
  refine ⟨fun pins s σ H Q I h => ?_⟩
  refine wpAny_Call_Name_kw (ld_glob I hg (by rw [fam.mg i]; exact hm) ?_ hdb)
  refine PySem.W.callWith_S (h₀ := (X i).base) I.ok.mod.kin M'.kp (thn (he.run pins s σ H _ I h) fun v s1 ⟨y, H1, I1, ry, a, xs, ey, hxs, q⟩ => ?_) hst
  subst ey
  obtain rfl : v = Value.ref a := ry
  exact StX.star_any I1 (by rw [fam.K i]; exact hxs) fun us s2 I2 rv => ⟨I2.kIn, StX.run_makeR M' (by rw [fam.prog i, fam.w i, fam.K i, fam.mg i, fam.base i]; exact Fn) ((fam.room i).mono hk) pass0 I2 rv q⟩
theorem e_mkS (fam : Fam X Pr w K mg base j) (F : Mkf Pr w K mg base k C (spMk C A S Fs)) (d : D) {sq : Pos} (hg : ∀ i, Gl (X i) x) (hm : mg x = some (.ref C)) (ha : TyE X Ga e (Sq (A d)) Gb) (hs : S d) (hk : k + 1 ≤ j := by decide) (hdb : (x == ("__debug__" : Str)) = false := by decide)
    (hst : ∀ i, starEach [.Starred e sq] (X i).env = [(true, eval e (X i).env)] := by intro i; rfl) :
    TyE X Ga (.Call (.Name x p) [.Starred e sq] [] pos) (In C (Fs d)) Gb := fun q F' σ G H I Q kk => by
  refine ⟨_, fun i => pe_mkS fam F hk i (hg i) hm (uE_pe i) hdb (hst i), ha q F' σ G H I _ fun v G1 H1 t1 I1 p1 => ?_⟩
  obtain ⟨a, xs, ev, hx, hp⟩ := p1
  exact ⟨a, xs, ev, hx.elim (fun z => .inr (SqL.of (I1.sub _ _ z))) (fun z => .inl (SqT.of (I1.sub _ _ z))), mk_made d hs I1.sub hp fun v G2 H2 t2 r => kk v G2 H2 (t1.trans t2.any) (I1.pure t2) r⟩
/-- cls(e, ..), cls( *e): a local name that holds the class -/
theorem pe_mkL (fam : Fam X Pr w K mg base j) (F : Mkf Pr w K mg base k C sp) (hk : k + 1 ≤ j) (i : ι) {t : TA} {n : Nat} (hN : (X i).N[n]? = some x) (hv : Vis (X i).env.scope x) (ha : PA (X i) (e :: es) t) (hdb : (x == ("__debug__" : Str)) = false := by decide) (hcd : (x == ("__classdict__" : Str)) = false := by decide)
    (he : starEach (e :: es) (X i).env = (false, eval e (X i).env) :: starEach es (X i).env := by rfl) (hpl : (backTo pos (starEach es (X i).env)).any (·.1) = false := by rfl) :
    PE (X i) (.Call (.Name x p) (e :: es) [] pos) (fun σ H Q => σ[n]? = some (some (.ref C)) ∧ StX.tMakeR C sp E0 t σ H Q) := by
  obtain ⟨g, Fn, M⟩ := F.ex
  have M' : Mk (X i).K C g := by rw [fam.K i]; exact M
  refine ⟨fun pins s σ H Q I h => ?_⟩
  obtain ⟨hs, h⟩ := h
  refine wpAny_Call_Name_kw (thn ((pe_var (pos := p) (i := n) hN hv hdb hcd).run pins s σ H (fun v H1 => v = .ref C ∧ H1 = H) I ⟨.ref C, hs, rfl, rfl⟩) fun u s1 ⟨v, H1, I1, r1, ev, eH⟩ => ?_)
  subst ev
  rw [eH] at I1
  cases r1
  refine PySem.W.callWith_K (h₀ := (X i).base) I.ok.mod.kin M'.kp (thn (ha.run pos pins s1 σ H _ I1 h) fun us s2 ⟨vs, H2, I2, r, q⟩ => ⟨I2.kIn, ?_⟩) he hpl
  exact StX.run_makeR M' (by rw [fam.prog i, fam.w i, fam.K i, fam.mg i, fam.base i]; exact Fn) ((fam.room i).mono hk) pass0 I2 r q
theorem pe_mkLS (fam : Fam X Pr w K mg base j) (F : Mkf Pr w K mg base k C sp) (hk : k + 1 ≤ j) (i : ι) {te : TE} {n : Nat} {sq : Pos} (hN : (X i).N[n]? = some x) (hv : Vis (X i).env.scope x) (he : PE (X i) e te) (hdb : (x == ("__debug__" : Str)) = false := by decide) (hcd : (x == ("__classdict__" : Str)) = false := by decide)
    (hst : starEach [.Starred e sq] (X i).env = [(true, eval e (X i).env)] := by rfl) :
    PE (X i) (.Call (.Name x p) [.Starred e sq] [] pos) (fun σ H Q => σ[n]? = some (some (.ref C)) ∧ te σ H fun y H1 => ∃ a xs, y = V.ref a ∧ (SqT K H1 a xs ∨ SqL K H1 a xs) ∧ ∀ x dx, H1 x = Option.none → H1 dx = Option.none → dx ≠ x → sp (V.ref x :: xs) (upd (upd H1 dx (.own x)) x (.ins C dx [])) (fun v H2 => v = .non ∧ Q (.ref x) H2) E0) := by
  obtain ⟨g, Fn, M⟩ := F.ex
  have M' : Mk (X i).K C g := by rw [fam.K i]; exact M
  refine ⟨fun pins s σ H Q I h => ?_⟩
  obtain ⟨hs, h⟩ := h
  refine wpAny_Call_Name_kw (thn ((pe_var (pos := p) (i := n) hN hv hdb hcd).run pins s σ H (fun v H1 => v = .ref C ∧ H1 = H) I ⟨.ref C, hs, rfl, rfl⟩) fun u s1 ⟨v, H1, I1, r1, ev, eH⟩ => ?_)
  subst ev
  rw [eH] at I1
  cases r1
  refine PySem.W.callWith_S (h₀ := (X i).base) I.ok.mod.kin M'.kp (thn (he.run pins s1 σ H _ I1 h) fun v s1 ⟨y, H1, I1, ry, a, xs, ey, hxs, q⟩ => ?_) hst
  subst ey
  obtain rfl : v = Value.ref a := ry
  exact StX.star_any I1 (by rw [fam.K i]; exact hxs) fun us s2 I2 rv => ⟨I2.kIn, StX.run_makeR M' (by rw [fam.prog i, fam.w i, fam.K i, fam.mg i, fam.base i]; exact Fn) ((fam.room i).mono hk) pass0 I2 rv q⟩
theorem e_mkL (fam : Fam X Pr w K mg base j) (F : Mkf Pr w K mg base k C (spMk C A S Fs)) (d : D) (n : Nat) (hN : ∀ i, (X i).N[n]? = some x) (hv : ∀ i, Vis (X i).env.scope x) (hn : Ga[n]? = some (.is (Is (.ref C)))) (ha : TyA X Ga (e :: es) (A d) Gb) (hs : S d) (hk : k + 1 ≤ j := by decide) (hdb : (x == ("__debug__" : Str)) = false := by decide) (hcd : (x == ("__classdict__" : Str)) = false := by decide)
    (he : ∀ i, starEach (e :: es) (X i).env = (false, eval e (X i).env) :: starEach es (X i).env := by intro i; rfl) (hpl : ∀ i, (backTo pos (starEach es (X i).env)).any (·.1) = false := by intro i; rfl) :
    TyE X Ga (.Call (.Name x p) (e :: es) [] pos) (In C (Fs d)) Gb := fun q F' σ G H I Q kk => by
  refine ⟨_, fun i => pe_mkL fam F hk i (hN i) (hv i) (uA_pa i) hdb hcd (he i) (hpl i), ?_, ha q F' σ G H I _ fun vs G1 H1 t1 I1 p1 => mk_made d hs I1.sub p1 fun v G2 H2 t2 r => kk v G2 H2 (t1.trans t2.any) (I1.pure t2) r⟩
  obtain ⟨v, ev, pv⟩ := I.get hn
  rw [ev, show v = .ref C from pv]
theorem e_mkLS (fam : Fam X Pr w K mg base j) (F : Mkf Pr w K mg base k C (spMk C A S Fs)) (d : D) (n : Nat) {sq : Pos} (hN : ∀ i, (X i).N[n]? = some x) (hv : ∀ i, Vis (X i).env.scope x) (hn : Ga[n]? = some (.is (Is (.ref C)))) (ha : TyE X Ga e (Sq (A d)) Gb) (hs : S d) (hk : k + 1 ≤ j := by decide) (hdb : (x == ("__debug__" : Str)) = false := by decide) (hcd : (x == ("__classdict__" : Str)) = false := by decide)
    (hst : ∀ i, starEach [.Starred e sq] (X i).env = [(true, eval e (X i).env)] := by intro i; rfl) :
    TyE X Ga (.Call (.Name x p) [.Starred e sq] [] pos) (In C (Fs d)) Gb := fun q F' σ G H I Q kk => by
  refine ⟨_, fun i => pe_mkLS fam F hk i (hN i) (hv i) (uE_pe i) hdb hcd (hst i), ?_, ha q F' σ G H I _ fun v G1 H1 t1 I1 p1 => ?_⟩
  · obtain ⟨v, ev, pv⟩ := I.get hn
    rw [ev, show v = .ref C from pv]
  · obtain ⟨a, xs, ev, hx, hp⟩ := p1
    exact ⟨a, xs, ev, hx.elim (fun z => .inr (SqL.of (I1.sub _ _ z))) (fun z => .inl (SqT.of (I1.sub _ _ z))), mk_made d hs I1.sub hp fun v G2 H2 t2 r => kk v G2 H2 (t1.trans t2.any) (I1.pure t2) r⟩
end
/-- C.m(e, ..), a class method -/
theorem e_cm {pl : ι → Sem Bool} (fam : Fam X Pr w K mg base j) (F : Cm Pr w K mg base k C m (SpD A S R)) (d : D) (ho : TyE X Ga o (Is (.ref C)) Gb) (ha : TyA X Gb (e :: es) Ps Gc) (hA : A d = Is (.ref C) :: Ps) (hs : S d) (hk : k ≤ j := by decide)
    (hst : ∀ i, starEach (e :: es) (X i).env = (false, eval e (X i).env) :: starEach es (X i).env := by intro i; rfl) (hpl : ∀ i, (backTo pos (starEach es (X i).env)).any (·.1) = false := by intro i; rfl)
    (ht : ∀ i, eval (.Call (.Attribute o m apos) (e :: es) [] pos) (X i).env = (do
      let ov ← eval o (X i).env
      standAt apos.atName
      let (f, first) ← holding [ov] (getMethod ov m (pl i))
      callWith pos f first (backTo pos (starEach (e :: es) (X i).env)) (backToKw pos (keywordEach [] (X i).env))) := by intro i; rfl) :
    TyE X Ga (.Call (.Attribute o m apos) (e :: es) [] pos) (R d) Gc := fun q F' σ G H I Q kk => by
  obtain ⟨mc, p', g, Fn, r, c⟩ := F.ex
  refine ⟨ClX.tCMeth C (SpD A S R) E0 (uE X o) (uA X (e :: es)), fun i => ClX.pe_cmeth (pl := pl i) (uE_pe i) (by rw [fam.K i]; exact r) (by rw [fam.K i]; exact c) (by rw [fam.prog i, fam.w i, fam.K i, fam.mg i, fam.base i]; exact Fn) ((fam.room i).mono hk) pass0 (uA_pa i) (hst i) (hpl i) (ht i), ?_⟩
  refine ho q F' σ G H I _ fun v G1 H1 t1 I1 p1 => ⟨p1, ha q F' σ G1 H1 I1 _ fun ws G2 H2 t2 I2 p2 => ?_⟩
  exact ⟨d, G2, hs, I2.sub, by rw [hA]; exact ⟨rfl, p2⟩, fun v G3 H3 t3 r => kk v G3 H3 ((t1.trans t2).trans t3.any) (I2.pure t3) r⟩
end
end Ty
end
section
/-! Objects that change: append, extend, x[i] = v, o.f = v. -/
namespace Ty
open PySem PySem.Spec PyProof.Rows L2
open Evl (Ex)

inductive MuOwn (M M' : Mo) : Sl → Sl → Prop where
  | mu : MuOwn M M' (.mu M) (.mu M')
  | own : MuOwn M M' (.own M) (.own M')
section
variable {q : Option Addr} {F : Addr → Prop} {Ga Gb : List Sl} {σ : L2.St} {G H : Hp} {i : Nat} {s t : Sl} {M M' : Mo} {b : Bs}
theorem MuOwn.mut (h : MuOwn M M' s t) : s.mut := by cases h <;> trivial
theorem SI.getA (h : SI q F Ga σ G H) (hm : MuOwn M M' s t) (e : Ga[i]? = some s) : ∃ a o, σ[i]? = some (some (.ref a)) ∧ G a = none ∧ H a = some o ∧ M.m o G := by
  cases hm with
  | mu => obtain ⟨a, o, h1, _, _, h2, h3, h4⟩ := h.getM e; exact ⟨a, o, h1, h2, h3, h4⟩
  | own => obtain ⟨a, o, h1, _, h2, h3, h4⟩ := h.getO e; exact ⟨a, o, h1, h2, h3, h4⟩
theorem FS.chg {a : Addr} {o : HO} (f : FS b Ga σ G H) (hm : MuOwn M M' s t) (e : Ga[i]? = some s) (ea : σ[i]? = some (some (.ref a))) (m : M'.m o G) : FS b (Ga.set i t) σ G (upd H a o) := by
  have ht : (s = .mu M ∧ t = .mu M') ∨ (s = .own M ∧ t = .own M') := by cases hm; exact .inl ⟨rfl, rfl⟩; exact .inr ⟨rfl, rfl⟩
  refine ⟨f.si.chg e hm.mut ea ht m, ?_⟩
  cases hm with
  | mu =>
    obtain ⟨a', o', h1, nq, hF, h2, h3, h4⟩ := f.si.getM e
    rw [ea] at h1; cases h1
    exact f.st.off hF h2 nq
  | own =>
    obtain ⟨a', o', h1, hq, h2, h3, h4⟩ := f.si.getO e
    rw [ea] at h1; cases h1
    refine f.st.trans ⟨Ex.refl G, fun x u eg => ?_, fun x u nq ex => ?_, fun x u eg => .inl ⟨u, eg⟩, fun x ex hx => ?_⟩
    · rw [upd_ne (fun z => by rw [z, h2] at eg; cases eg)]; exact f.st.s x u eg
    · rw [upd_ne (fun z => nq (by rw [hq, z]))]; exact ex
    · by_cases c : x = a
      · exact ⟨o, by rw [c]; exact upd_same⟩
      · obtain ⟨u, hu⟩ := hx; exact ⟨u, by rw [upd_ne c]; exact hu⟩
end
section
variable {ι : Type} {X : ι → Cx} {Ga Gb Gc Gd : List Sl} {e ie o : Expr} {es : List Expr} {P P1 P2 : Pd} {Ps Qs : List Pd} {n : Option (List Sl)} {R : Pd} {O : Option Mo} {rest : List Stmt} {st : Stmt} {pos p apos cpos : Pos} {M M' : Mo} {s t s0 t0 : Sl} {i : Nat} {x : Str} {K : PySem.W.Frag} {C : Addr} {Fs : List (Str × Pd)} {f : Str}
/-- x.append(e) -/
theorem b_app (hK : ∀ l, (X l).K = K) (hv : ∀ j, PE (X j) (.Name x p) (tVar i)) (h0 : Ga[i]? = some s0) (hm0 : MuOwn (Ml Qs) (Ml Qs) s0 s0) (ha : TyE X Ga e P Gb) (hi : Gb[i]? = some s) (hm : MuOwn (Ml Ps) (Ml (Ps ++ [P])) s t) (hz : Ps.length < sizeLine) (hr : TyB X (Gb.set i t) rest n R O)
    (hst : ∀ l, starEach [e] (X l).env = (false, eval e (X l).env) :: starEach [] (X l).env := by intro i; rfl)
    (mk : ∀ (l : ι) (to : TE) (ta : TA), PE (X l) (.Name x p) to → PA (X l) [e] ta → PS (X l) (.Expr (.Call (.Attribute (.Name x p) "append" apos) [e] [] cpos) pos) (tDrop (tBM (X l).K "list" rAppend to ta)) := by exact fun _ _ _ ho ha => ps_expr (pe_bm PySem.F.plainAttrs_list PySem.F.slot_list_append PySem.F.type_list_append mt_append ho ha)) :
    TyB X Ga (.Expr (.Call (.Attribute (.Name x p) "append" apos) [e] [] cpos) pos :: rest) n R O :=
  b_cons (fun b σ G H D f kn kr => by
    refine ⟨tDrop (tBM K "list" rAppend (tVar i) (tCons (uE X e) tNil)), fun l => by rw [← hK l]; exact mk l _ _ (hv l) (pa_cons (uE_pe l) pa_nil (hst l)), ?_⟩
    obtain ⟨a, o, ea, g0, h0', m0⟩ := f.si.getA hm0 h0
    obtain ⟨xs0, rfl, q0⟩ := m0
    refine ⟨.ref a, ea, .inl ⟨rfl, xs0, SqL.of h0'⟩, ha b.q (Fr b) σ G H f.si _ fun v G1 H1 t1 I1 p1 => ?_⟩
    have f1 := f.next t1 I1
    obtain ⟨a', o', ea', g1, h1, m1⟩ := I1.getA hm hi
    rw [ea] at ea'; cases ea'
    obtain ⟨xs, rfl, q1⟩ := m1
    exact ⟨a, xs, v, rfl, rfl, h1, by rw [q1.length]; exact hz, kn σ G1 _ t1.k (f1.chg hm hi ea ⟨_, rfl, q1.append ⟨p1, trivial⟩⟩)⟩) hr
/-- x.extend(e), e a new list -/
theorem b_ext (hK : ∀ l, (X l).K = K) (hv : ∀ j, PE (X j) (.Name x p) (tVar i)) (h0 : Ga[i]? = some s0) (hm0 : MuOwn (Ml Qs) (Ml Qs) s0 s0) (ha : TyE X Ga e (Ls Ps) Gb) {Rs : List Pd} (hi : Gb[i]? = some s) (hm : MuOwn (Ml Rs) (Ml (Rs ++ Ps)) s t) (hz : Rs.length + Ps.length ≤ sizeLine) (hr : TyB X (Gb.set i t) rest n R O)
    (hst : ∀ l, starEach [e] (X l).env = (false, eval e (X l).env) :: starEach [] (X l).env := by intro i; rfl)
    (mk : ∀ (l : ι) (to : TE) (ta : TA), PE (X l) (.Name x p) to → PA (X l) [e] ta → PS (X l) (.Expr (.Call (.Attribute (.Name x p) "extend" apos) [e] [] cpos) pos) (tDrop (tBM (X l).K "list" rExtend to ta)) := by exact fun _ _ _ ho ha => ps_expr (pe_bm PySem.F.plainAttrs_list PySem.F.slot_list_extend PySem.F.type_list_extend mt_extend ho ha)) :
    TyB X Ga (.Expr (.Call (.Attribute (.Name x p) "extend" apos) [e] [] cpos) pos :: rest) n R O :=
  b_cons (fun b σ G H D f kn kr => by
    refine ⟨tDrop (tBM K "list" rExtend (tVar i) (tCons (uE X e) tNil)), fun l => by rw [← hK l]; exact mk l _ _ (hv l) (pa_cons (uE_pe l) pa_nil (hst l)), ?_⟩
    obtain ⟨a, o, ea, g0, h0', m0⟩ := f.si.getA hm0 h0
    obtain ⟨xs0, rfl, q0⟩ := m0
    refine ⟨.ref a, ea, .inl ⟨rfl, xs0, SqL.of h0'⟩, ha b.q (Fr b) σ G H f.si _ fun v G1 H1 t1 I1 p1 => ?_⟩
    have f1 := f.next t1 I1
    obtain ⟨a', o', ea', g1, h1, m1⟩ := I1.getA hm hi
    rw [ea] at ea'; cases ea'
    obtain ⟨xs, rfl, q1⟩ := m1
    obtain ⟨c, ys, rfl, hc, pc⟩ := p1
    exact ⟨a, c, xs, ys, rfl, rfl, h1, I1.sub _ _ hc, by rw [q1.length, pc.length]; exact hz, kn σ G1 _ t1.k (f1.chg hm hi ea ⟨_, rfl, q1.append pc⟩)⟩) hr
/-- x[ie] = e -/
theorem b_setI {Gi : List Sl} {k : Int} {jx : Nat} {subpos : Pos} (hv : ∀ j, PE (X j) (.Name x p) (tVar i)) (ha : TyE X Ga e P Gb) (h0 : ∃ s', Gb[i]? = some s' ∧ MuOwn M M s' s') (hix : TyE X Gb ie (IsI k) Gi) (hi : Gi[i]? = some s) (hm : MuOwn (Ml Ps) (Ml (Ps.set jx P)) s t) (hj : ixN Ps.length k = some jx) (hr : TyB X (Gi.set i t) rest n R O)
    (mk : ∀ (l : ι) (te to ti : TE), PE (X l) e te → PE (X l) (.Name x p) to → PE (X l) ie ti → PS (X l) (.Assign [.Subscript (.Name x p) ie subpos] e pos) (tAsg te (gSub to ti rSetL)) := by exact fun _ _ _ _ h1 h2 h3 => ps_asg h1 (pg_sub h2 h3 set_list)) :
    TyB X Ga (.Assign [.Subscript (.Name x p) ie subpos] e pos :: rest) n R O :=
  b_cons (fun b σ G H D f kn kr => by
    refine ⟨tAsg (uE X e) (gSub (tVar i) (uE X ie) rSetL), fun l => mk l _ _ _ (uE_pe l) (hv l) (uE_pe l), ha b.q (Fr b) σ G H f.si _ fun v G1 H1 t1 I1 p1 => ?_⟩
    have f1 := f.next t1 I1
    obtain ⟨s', hs', hm'⟩ := h0
    obtain ⟨a, o, ea, _⟩ := I1.getA hm' hs'
    refine ⟨.ref a, ea, hix b.q (Fr b) σ G1 H1 I1 _ fun w G2 H2 t2 I2 p2 => ?_⟩
    have f2 := f1.next t2 I2
    obtain ⟨a', o', ea', g2, h2, m2⟩ := I2.getA hm hi
    rw [ea] at ea'; cases ea'
    obtain ⟨xs, rfl, q2⟩ := m2
    exact ⟨a, xs, k, jx, rfl, p2, h2, by rw [q2.length]; exact hj, kn σ G2 _ (Ex.trans t1.k t2.k) (f2.chg hm hi ea ⟨_, rfl, AllP.set (P.mono t2.k p1) jx q2⟩)⟩) hr
/-! ### reading what may change -/
theorem e_ixM {k : Int} (hK : ∀ l, (X l).K = K) (hv : ∀ j, PE (X j) (.Name x p) (tVar i)) (h0 : ∃ s', Ga[i]? = some s' ∧ MuOwn M M s' s') (hix : TyE X Ga ie (IsI k) Gb) (hi : Gb[i]? = some s) (hm : MuOwn (Ml Ps) (Ml Ps) s s) (ha : atI Ps k = some P) (hs : PlainIx ie := by exact fun _ _ => rfl) :
    TyE X Ga (.Subscript (.Name x p) ie pos) P Gb := fun q F σ G H I Q kk => by
  refine ⟨tOp (rIx K) (tVar i) (uE X ie), fun l => by rw [← hK l]; exact pe_ix ix_seq (hv l) (uE_pe l) hs, ?_⟩
  obtain ⟨s', hs', hm'⟩ := h0
  obtain ⟨a, o, ea, _⟩ := I.getA hm' hs'
  refine ⟨.ref a, ea, hix q F σ G H I _ fun w G2 H2 t2 I2 p2 => ?_⟩
  obtain ⟨a', o', ea', g2, h2, m2⟩ := I2.getA hm hi
  rw [ea] at ea'; cases ea'
  obtain ⟨xs, rfl, q2⟩ := m2
  obtain ⟨v, hv', pv⟩ := q2.atI ha
  exact .inl ⟨a, xs, k, v, rfl, p2, SqL.of h2, hv', kk v G2 H2 t2 I2 pv⟩
theorem e_lenM (hK : ∀ l, (X l).K = K) (hv : ∀ j, PE (X j) (.Name x p) (tVar i)) (hi : Ga[i]? = some s) (hm : MuOwn (Ml Ps) (Ml Ps) s s)
    (mk : ∀ (l : ι) (to : TE), PE (X l) (.Name x p) to → PE (X l) e (tCB (fun xs H Q => ∃ p ys, xs = [.ref p] ∧ (SqL (X l).K H p ys ∨ SqT (X l).K H p ys) ∧ Q (.int ys.length) H) (tCons to tNil))) : TyE X Ga e (IsI Ps.length) Ga := fun q F σ G H I Q kk => by
  refine ⟨tCB (fun xs H Q => ∃ p ys, xs = [.ref p] ∧ (SqL K H p ys ∨ SqT K H p ys) ∧ Q (.int ys.length) H) (tCons (tVar i) tNil), fun l => by rw [← hK l]; exact mk l _ (hv l), ?_⟩
  obtain ⟨a, o, ea, g, h, m⟩ := I.getA hm hi
  obtain ⟨xs, rfl, q2⟩ := m
  exact ⟨.ref a, ea, a, xs, rfl, .inl (SqL.of h), by rw [q2.length]; exact kk _ G H (Step.refl I.sub) I rfl⟩
/-! ### attributes of an object that may change -/
theorem e_fldO {k : Nat} (hK : ∀ l, (X l).K = K) (c : Cls K C) (na : NoAttr K C f) (hv : ∀ j, PE (X j) (.Name x p) (tVar i)) (hi : Ga[i]? = some s) (hm : MuOwn (Ob C Fs) (Ob C Fs) s s) (hk : Fs[k]? = some (f, P)) (ht : AtF Fs f k)
    (hb : ∀ l, attributeBase (.Name x p) f (X l).env (eval (.Name x p) (X l).env) = eval (.Name x p) (X l).env := by intro l; rfl) : TyE X Ga (.Attribute (.Name x p) f pos) P Ga := fun q F σ G H I Q kk => by
  refine ⟨tFld K (tVar i) f, fun l => by rw [← hK l]; exact pe_fld (hv l) (hb l), ?_⟩
  obtain ⟨a, o, ea, g, h, m⟩ := I.getA hm hi
  obtain ⟨dx, vs, rfl, hp⟩ := m
  have hm' : (Fs.map Prod.snd)[k]? = some P := by rw [List.getElem?_map, hk]; rfl
  obtain ⟨u, hu, pu⟩ := hp.get hm'
  exact ⟨.ref a, ea, a, C, dx, _, u, rfl, h, c, na, lookup_at ht.1 ht.2 hu, kk u G H (Step.refl I.sub) I pu⟩
theorem putF_new {f : Str} {v : V} : ∀ {l : List Str} {vs : List V}, vs.length = l.length → l.all (fun x => !(f == x)) = true → putF f v (l.zip vs) = (l ++ [f]).zip (vs ++ [v])
  | [], [], _, _ => rfl
  | x :: l, y :: vs, hl, h => by
    have h' : (!(f == x)) = true ∧ l.all (fun x => !(f == x)) = true := by simpa using h
    have hn : ¬ x = f := fun z => by rw [z] at h'; simp at h'
    show (if x = f then _ else _) = _
    rw [if_neg hn]
    exact congrArg (List.cons (x, y)) (putF_new (l := l) (vs := vs) (by simpa using hl) h'.2)
  | [], _ :: _, hl, _ => by cases hl
  | _ :: _, [], hl, _ => by cases hl
theorem putF_old {f : Str} {v : V} : ∀ {l : List Str} {vs : List V} {k : Nat}, vs.length = l.length → l[k]? = some f → (l.take k).all (fun x => !(f == x)) = true → putF f v (l.zip vs) = l.zip (vs.set k v)
  | x :: l, y :: vs, 0, hl, h, _ => by
    simp at h
    subst h
    show (if x = x then _ else _) = _
    rw [if_pos rfl]
    rfl
  | x :: l, y :: vs, k + 1, hl, h, ha => by
    have h' : (!(f == x)) = true ∧ (l.take k).all (fun x => !(f == x)) = true := by simpa using ha
    have hn : ¬ x = f := fun z => by rw [z] at h'; simp at h'
    show (if x = f then _ else _) = _
    rw [if_neg hn]
    exact congrArg (List.cons (x, y)) (putF_old (l := l) (vs := vs) (k := k) (by simpa using hl) (by simpa using h) h'.2)
  | [], _, _, _, h, _ => by simp at h
  | _ :: _, [], _, hl, _, _ => by cases hl
/-- o.f = e: a new attribute -/
theorem b_fld {fpos : Pos} (hK : ∀ l, (X l).K = K) (c : Cls K C) (na : NoAttr K C f) (hv : ∀ j, PE (X j) (.Name x p) (tVar i)) (ha : TyE X Ga e P Gb) (hi : Gb[i]? = some s) (hm : MuOwn (Ob C Fs) (Ob C (Fs ++ [(f, P)])) s t) (hf : (Fs.map Prod.fst).all (fun y => !(f == y)) = true) (hz : Fs.length < 1000) (hr : TyB X (Gb.set i t) rest n R O)
    (hs : ∀ l, swapsWith e (some (.Attribute (.Name x p) f fpos)) pos.line (X l).env = pure false := by intro i; rfl) : TyB X Ga (.Assign [.Attribute (.Name x p) f fpos] e pos :: rest) n R O :=
  b_cons (fun b σ G H D ff kn kr => by
    refine ⟨sFld K (tVar i) (uE X e) f, fun l => by rw [← hK l]; exact ps_fld (hv l) (uE_pe l) (hs l), ha b.q (Fr b) σ G H ff.si _ fun v G1 H1 t1 I1 p1 => ?_⟩
    have f1 := ff.next t1 I1
    obtain ⟨a, o, ea, g, h, m⟩ := I1.getA hm hi
    obtain ⟨dx, vs, rfl, hp⟩ := m
    have hl := hp.length
    rw [List.length_map] at hl
    refine ⟨.ref a, ea, a, C, dx, _, rfl, h, c, na, ?_, ?_⟩
    · rw [List.length_zip, List.length_map, hl, Nat.min_self]; exact hz
    · refine kn σ G1 _ t1.k (f1.chg hm hi ea ⟨dx, vs ++ [v], ?_, ?_⟩)
      · rw [putF_new (by rw [hl, List.length_map]) hf, List.map_append]; rfl
      · rw [List.map_append]; exact hp.append ⟨p1, trivial⟩) hr
/-- o.f = e: an attribute once more -/
theorem b_fldR {fpos : Pos} {k : Nat} {P0 : Pd} (hK : ∀ l, (X l).K = K) (c : Cls K C) (na : NoAttr K C f) (hv : ∀ j, PE (X j) (.Name x p) (tVar i)) (ha : TyE X Ga e P Gb) (hi : Gb[i]? = some s) (hm : MuOwn (Ob C Fs) (Ob C (Fs.set k (f, P))) s t) (hk : Fs[k]? = some (f, P0)) (ht : AtF Fs f k) (hz : Fs.length < 1000) (hr : TyB X (Gb.set i t) rest n R O)
    (hs : ∀ l, swapsWith e (some (.Attribute (.Name x p) f fpos)) pos.line (X l).env = pure false := by intro i; rfl) : TyB X Ga (.Assign [.Attribute (.Name x p) f fpos] e pos :: rest) n R O :=
  b_cons (fun b σ G H D ff kn kr => by
    refine ⟨sFld K (tVar i) (uE X e) f, fun l => by rw [← hK l]; exact ps_fld (hv l) (uE_pe l) (hs l), ha b.q (Fr b) σ G H ff.si _ fun v G1 H1 t1 I1 p1 => ?_⟩
    have f1 := ff.next t1 I1
    obtain ⟨a, o, ea, g, h, m⟩ := I1.getA hm hi
    obtain ⟨dx, vs, rfl, hp⟩ := m
    have hl := hp.length
    rw [List.length_map] at hl
    refine ⟨.ref a, ea, a, C, dx, _, rfl, h, c, na, ?_, ?_⟩
    · rw [List.length_zip, List.length_map, hl, Nat.min_self]; exact hz
    · have e1 : (Fs.set k (f, P)).map Prod.fst = Fs.map Prod.fst := by
        rw [List.map_set]
        apply List.ext_getElem?
        intro j
        by_cases cc : k = j
        · subst cc
          rw [List.getElem?_set_self (by rw [List.length_map]; exact (List.getElem?_eq_some_iff.mp hk).1), ht.1]
        · rw [List.getElem?_set_ne cc]
      refine kn σ G1 _ t1.k (f1.chg hm hi ea ⟨dx, vs.set k v, ?_, ?_⟩)
      · rw [e1, putF_old (by rw [hl, List.length_map]) ht.1 ht.2]
      · rw [List.map_set]; exact AllP.set p1 k hp) hr
end
end Ty
end
section
/-! While loops; contexts of blocks; calls told of FnR. -/
namespace Ty
open PySem PySem.Spec PyProof.Rows L2
open Evl (Ex)
section
variable {ι : Type} {X : ι → Cx} {Pr : Program} {w : World} {K : PySem.W.Frag} {mg : Str → Option Value} {base : Heap} {j : Nat} {scope : Scope}
theorem Fam.blk (fam : Fam X Pr w K mg base j) : Fam (blkX X scope) Pr w K mg base j :=
  ⟨fun i => fam.prog i.1, fun i => fam.w i.1, fun i => fam.K i.1, fun i => fam.mg i.1, fun i => fam.base i.1, fun i => fam.calm i.1, fun i => fam.room i.1⟩
theorem Fam.mono {k : Nat} (fam : Fam X Pr w K mg base j) (h : k ≤ j) : Fam X Pr w K mg base k := ⟨fam.prog, fam.w, fam.K, fam.mg, fam.base, fam.calm, fun i => (fam.room i).mono h⟩
variable {Ga Gb Gc : List Sl} {c : Expr} {body rest : List Stmt} {pos : Pos} {n : Option (List Sl)} {R : Pd} {O : Option Mo}
theorem b_while {δ : Type} (Inv Bd : δ → List Sl) (t : δ → Bool) (nxt : δ → δ) (ms : δ → Nat) (ok : δ → Prop) (d0 : δ) (h0 : ok d0) (nox : ∀ i, (X i).xe = fun _ _ => False) (hG : Ga = Inv d0) (hc : ∀ d, ok d → TyT X (Inv d) c (t d) (Bd d))
    (hb : ∀ d, ok d → t d = true → TyB X (Bd d) body (some (Inv (nxt d))) R O) (hk : ∀ d, ok d → t d = true → ok (nxt d) ∧ ms (nxt d) < ms d) (hr : ∀ d, ok d → t d = false → TyB X (Bd d) rest n R O) : TyB X Ga (.While c body [] pos :: rest) n R O := fun b σ G H D f kn kr => by
  subst hG
  refine ⟨tSeq (tWhile (uT X c) (uB X body)) (uB X rest), fun i => pss_cons (ps_while (PassesOwn_of nox i) (uT_pt i) (uB_ps i)) (uB_ps i), ?_⟩
  refine ⟨fun m σ' H' => ∃ d G', ok d ∧ m = ms d ∧ Ex G G' ∧ FS b (Inv d) σ' G' H', ⟨ms d0, d0, G, h0, rfl, Ex.refl G, f⟩, ?_⟩
  rintro m σ1 H1 ⟨d, G1, hd, rfl, e1, f1⟩
  refine hc d hd b.q (Fr b) σ1 G1 H1 f1.si _ fun G2 H2 t2 I2 => ?_
  have f2 := f1.next t2 I2
  cases htd : t d with
  | true =>
    rw [if_pos rfl]
    refine ⟨fun σ' H' => ∃ G', Ex G G' ∧ FS b (Inv (nxt d)) σ' G' H', fun σ' H' ⟨G', e', f'⟩ => ⟨ms (nxt d), (hk d hd htd).2, nxt d, G', (hk d hd htd).1, rfl, e', f'⟩, ?_⟩
    exact hb d hd htd b σ1 G2 H2 _ f2 (fun σ3 G3 H3 e3 f3 => ⟨G3, Ex.trans e1 (Ex.trans t2.k e3), f3⟩) kr
  | false =>
    rw [if_neg Bool.false_ne_true]
    exact hr d hd htd b σ1 G2 H2 D f2 (fun σ3 G3 H3 e3 f3 => kn σ3 G3 H3 (Ex.trans e1 (Ex.trans t2.k e3)) f3) kr
end
section
variable {P : Program} {w : World} {K : PySem.W.Frag} {mg : Str → Option Value} {base : Heap} {k : Nat} {f : Addr} {fd : FuncData} {ps : List Str} {sp : Sp} {x : Str}
theorem Gf.of (F : FnOk P w K mg base CX0 k f fd ps sp) (hb : Binds K fd ps []) (hm : mg x = some (.ref f)) (kp : PySem.W.keepIn K (.ref f) = true) : Gf P w K mg base k x sp := ⟨f, (F.raw hb .nil).imp fun vs H Q E h => by rw [List.append_nil]; exact h, hm, kp⟩
theorem FnOk.r (F : FnOk P w K mg base CX0 k f fd ps sp) (hb : Binds K fd ps []) : FnR P w K mg base CX0 k f sp := (F.raw hb .nil).imp fun vs H Q E h => by rw [List.append_nil]; exact h
end
end Ty
end
section
/-! Short forms. -/
namespace Ty
open PySem PySem.Spec PyProof.Rows L2
open Evl (Ex)
theorem bo_len : bootBuiltins "len" = some (.builtin "len") := by decide +kernel
theorem bo_abs : bootBuiltins "abs" = some (.builtin "abs") := by decide +kernel
theorem bo_all : bootBuiltins "all" = some (.builtin "all") := by decide +kernel
theorem bo_sum : bootBuiltins "sum" = some (.builtin "sum") := by decide +kernel
theorem bo_min : bootBuiltins "min" = some (.builtin "min") := by decide +kernel
theorem bo_max : bootBuiltins "max" = some (.builtin "max") := by decide +kernel
theorem bo_isi : bootBuiltins "isinstance" = some (.builtin "isinstance") := by decide +kernel
theorem bo_iter : bootBuiltins "iter" = some (.builtin "iter") := by decide +kernel
theorem bo_int : bootBuiltins "int" = some (.type "int") := by decide +kernel
theorem bo_bool : bootBuiltins "bool" = some (.type "bool") := by decide +kernel
theorem bo_str : bootBuiltins "str" = some (.type "str") := by decide +kernel
theorem bo_tuple : bootBuiltins "tuple" = some (.type "tuple") := by decide +kernel
theorem bo_list : bootBuiltins "list" = some (.type "list") := by decide +kernel
theorem abs_nat (i : Int) : (if i < 0 then -i else i) = ((i.natAbs : Nat) : Int) := by split <;> omega
section
variable {ι : Type} {X : ι → Cx} {Ga Gb Gc Gd : List Sl} {e a c d : Expr} {P P1 P2 : Pd} {Ps Qs : List Pd} {pos p : Pos} {x : Str} {K : PySem.W.Frag} {i j : Int} {b b1 b2 : Bool} {C : Addr} {Fs : List (Str × Pd)}
/-- a local name -/
theorem vr (i : Nat) (hN : ∀ j, (X j).N[i]? = some x := by intro j; rfl) (hv : ∀ j, Vis (X j).env.scope x := by intro j; first | exact Or.inl rfl | exact Or.inr (Or.inl rfl) | exact Or.inr (Or.inr rfl)) (hd : (x == ("__debug__" : Str)) = false := by decide)
    (hcd : (x == ("__classdict__" : Str)) = false := by decide) (h : Ga[i]? = some (.is P) := by rfl) : TyE X Ga (.Name x pos) P Ga := e_var (fun j => pe_var (hN j) (hv j) hd hcd) h
theorem e_glo {v : V} {u : Value} (hm : ∀ i, (X i).mg x = some u) (hr : RelV v u) (hg : ∀ i, Gl (X i) x := by intro i; rfl) (hd : (x == ("__debug__" : Str)) = false := by decide) : TyE X Ga (.Name x pos) (Is v) Ga := e_c fun i => pe_glob (hg i) (hm i) hr hd
theorem e_cls {C : Addr} (hm : ∀ i, (X i).mg x = some (.ref C)) (hg : ∀ i, Gl (X i) x := by intro i; rfl) (hd : (x == ("__debug__" : Str)) = false := by decide) : TyE X Ga (.Name x pos) (Is (.ref C)) Ga := e_glo hm rfl hg hd
theorem e_add (ha : TyE X Ga a (IsI i) Gb) (hc : TyE X Gb c (IsI j) Gc) : TyE X Ga (.BinOp a .Add c pos) (IsI (i + j)) Gc := e_op (fun _ => op_add) ha hc o_rI0
theorem e_sub (ha : TyE X Ga a (IsI i) Gb) (hc : TyE X Gb c (IsI j) Gc) : TyE X Ga (.BinOp a .Sub c pos) (IsI (i - j)) Gc := e_op (fun _ => op_sub) ha hc o_rI0
theorem e_mul (ha : TyE X Ga a (IsI i) Gb) (hc : TyE X Gb c (IsI j) Gc) (h : CMulW i j) : TyE X Ga (.BinOp a .Mult c pos) (IsI (i * j)) Gc := e_op (fun _ => op_mulW) ha hc (o_rI h)
theorem e_fdiv (ha : TyE X Ga a (IsI i) Gb) (hc : TyE X Gb c (IsI j) Gc) (h : CDivW i j) : TyE X Ga (.BinOp a .FloorDiv c pos) (IsI (i / j)) Gc := e_op (fun _ => op_fdivW) ha hc (o_rI h)
theorem e_mod (ha : TyE X Ga a (IsI i) Gb) (hc : TyE X Gb c (IsI j) Gc) (h : 0 < j) : TyE X Ga (.BinOp a .Mod c pos) (IsI (i % j)) Gc := e_op (fun _ => op_mod) ha hc (o_rI (C := fun _ j => 0 < j) h)
theorem e_pow (ha : TyE X Ga a (IsI i) Gb) (hc : TyE X Gb c (IsI j) Gc) (h : CPow i j) : TyE X Ga (.BinOp a .Pow c pos) (IsI (i ^ j.toNat)) Gc := e_op (fun _ => op_pow) ha hc (o_rI h)
theorem e_neg (ha : TyE X Ga a (IsI i) Gb) : TyE X Ga (.UnaryOp .USub a pos) (IsI (-i)) Gb := e_un (fun _ => un_neg) ha u_rU
/-! tests of numbers -/
theorem t_lt (ha : TyE X Ga a (IsI i) Gb) (hc : TyE X Gb c (IsI j) Gc) (hm : behindInMarks .Lt c = false := by first | exact nomark _ | rfl) : TyT X Ga (.Compare a [.Lt] [c] pos) (decide (i < j)) Gc := t_cmp (fun _ => op_lt) ha hc o_rI0 hm
theorem t_gt (ha : TyE X Ga a (IsI i) Gb) (hc : TyE X Gb c (IsI j) Gc) (hm : behindInMarks .Gt c = false := by first | exact nomark _ | rfl) : TyT X Ga (.Compare a [.Gt] [c] pos) (decide (j < i)) Gc := t_cmp (fun _ => op_gt) ha hc o_rI0 hm
theorem t_ge (ha : TyE X Ga a (IsI i) Gb) (hc : TyE X Gb c (IsI j) Gc) (hm : behindInMarks .GtE c = false := by first | exact nomark _ | rfl) : TyT X Ga (.Compare a [.GtE] [c] pos) (decide (j ≤ i)) Gc := t_cmp (fun _ => op_ge) ha hc o_rI0 hm
theorem dec_int {i j : Int} : decide (V.int i = V.int j) = decide (i = j) := by
  by_cases h : i = j
  · rw [h, decide_eq_true rfl, decide_eq_true rfl]
  · rw [decide_eq_false h, decide_eq_false (fun z => h (V.int.inj z))]
theorem dec_bl {i j : Bool} : decide (V.bl i = V.bl j) = decide (i = j) := by cases i <;> cases j <;> rfl
theorem dec_str {i j : Str} : decide (V.str i = V.str j) = decide (i = j) := by
  by_cases h : i = j
  · rw [h, decide_eq_true rfl, decide_eq_true rfl]
  · rw [decide_eq_false h, decide_eq_false (fun z => h (V.str.inj z))]
theorem t_eq (ha : TyE X Ga a (IsI i) Gb) (hc : TyE X Gb c (IsI j) Gc) (hm : behindInMarks .Eq c = false := by first | exact nomark _ | rfl) : TyT X Ga (.Compare a [.Eq] [c] pos) (decide (i = j)) Gc := (t_cmp (fun _ => op_eq) ha hc (o_eq rfl) hm).eq dec_int
theorem t_ne (ha : TyE X Ga a (IsI i) Gb) (hc : TyE X Gb c (IsI j) Gc) (hm : behindInMarks .NotEq c = false := by first | exact nomark _ | rfl) : TyT X Ga (.Compare a [.NotEq] [c] pos) (!decide (i = j)) Gc := (t_cmp (fun _ => op_ne) ha hc (o_ne rfl) hm).eq (by rw [dec_int])
theorem t_eqS {u v : Str} (ha : TyE X Ga a (Is (.str u)) Gb) (hc : TyE X Gb c (Is (.str v)) Gc) (hm : behindInMarks .Eq c = false := by first | exact nomark _ | rfl) : TyT X Ga (.Compare a [.Eq] [c] pos) (decide (u = v)) Gc := (t_cmp (fun _ => op_eq) ha hc (o_eq rfl) hm).eq dec_str
theorem t_neS {u v : Str} (ha : TyE X Ga a (Is (.str u)) Gb) (hc : TyE X Gb c (Is (.str v)) Gc) (hm : behindInMarks .NotEq c = false := by first | exact nomark _ | rfl) : TyT X Ga (.Compare a [.NotEq] [c] pos) (!decide (u = v)) Gc := (t_cmp (fun _ => op_ne) ha hc (o_ne rfl) hm).eq (by rw [dec_str])
theorem t_neB {u v : Bool} (ha : TyE X Ga a (IsB u) Gb) (hc : TyE X Gb c (IsB v) Gc) (hm : behindInMarks .NotEq c = false := by first | exact nomark _ | rfl) : TyT X Ga (.Compare a [.NotEq] [c] pos) (!decide (u = v)) Gc := (t_cmp (fun _ => op_ne) ha hc (o_ne rfl) hm).eq (by rw [dec_bl])
/-- the same as values -/
theorem v_lt (ha : TyE X Ga a (IsI i) Gb) (hc : TyE X Gb c (IsI j) Gc) (hm : behindInMarks .Lt c = false := by first | exact nomark _ | rfl) : TyE X Ga (.Compare a [.Lt] [c] pos) (IsB (decide (i < j))) Gc := e_cmp (fun _ => op_lt) ha hc o_rI0 hm
theorem v_ge (ha : TyE X Ga a (IsI i) Gb) (hc : TyE X Gb c (IsI j) Gc) (hm : behindInMarks .GtE c = false := by first | exact nomark _ | rfl) : TyE X Ga (.Compare a [.GtE] [c] pos) (IsB (decide (j ≤ i))) Gc := e_cmp (fun _ => op_ge) ha hc o_rI0 hm
theorem v_gt (ha : TyE X Ga a (IsI i) Gb) (hc : TyE X Gb c (IsI j) Gc) (hm : behindInMarks .Gt c = false := by first | exact nomark _ | rfl) : TyE X Ga (.Compare a [.Gt] [c] pos) (IsB (decide (j < i))) Gc := e_cmp (fun _ => op_gt) ha hc o_rI0 hm
theorem v_eq (ha : TyE X Ga a (IsI i) Gb) (hc : TyE X Gb c (IsI j) Gc) (hm : behindInMarks .Eq c = false := by first | exact nomark _ | rfl) : TyE X Ga (.Compare a [.Eq] [c] pos) (IsB (decide (i = j))) Gc := (e_cmp (fun _ => op_eq) ha hc (o_eq rfl) hm).eq (by rw [dec_int])
theorem v_eqS {u v : Str} (ha : TyE X Ga a (Is (.str u)) Gb) (hc : TyE X Gb c (Is (.str v)) Gc) (hm : behindInMarks .Eq c = false := by first | exact nomark _ | rfl) : TyE X Ga (.Compare a [.Eq] [c] pos) (IsB (decide (u = v))) Gc := (e_cmp (fun _ => op_eq) ha hc (o_eq rfl) hm).eq (by rw [dec_str])
theorem v_neS {u v : Str} (ha : TyE X Ga a (Is (.str u)) Gb) (hc : TyE X Gb c (Is (.str v)) Gc) (hm : behindInMarks .NotEq c = false := by first | exact nomark _ | rfl) : TyE X Ga (.Compare a [.NotEq] [c] pos) (IsB (!decide (u = v))) Gc := (e_cmp (fun _ => op_ne) ha hc (o_ne rfl) hm).eq (by rw [dec_str])
theorem v_isN {v : V} {kk : Nat} {cp : Pos} (ha : TyE X Ga a (Is v) Gb) : TyE X Ga (.Compare a [.Is] [.Constant .none kk cp] pos) (IsB (decide (v = .non))) Gb := e_cmp (fun _ => op_isN) ha e_non o_isN (by first | exact nomark _ | rfl)
theorem t_isN {v : V} {kk : Nat} {cp : Pos} (ha : TyE X Ga a (Is v) Gb) : TyT X Ga (.Compare a [.Is] [.Constant .none kk cp] pos) (decide (v = .non)) Gb := t_cmp (fun _ => op_isN) ha e_non o_isN (by first | exact nomark _ | rfl)
theorem t_isN' {kk : Nat} {cp : Pos} (ha : TyE X Ga a P Gb) (h : ∀ v G, P.p v G → v ≠ .non) : TyT X Ga (.Compare a [.Is] [.Constant .none kk cp] pos) false Gb := t_cmp (fun _ => op_isN) ha e_non (o_isN' h) (by first | exact nomark _ | rfl)
theorem t_notN' {kk : Nat} {cp : Pos} (ha : TyE X Ga a P Gb) (h : ∀ v G, P.p v G → v ≠ .non) : TyT X Ga (.Compare a [.IsNot] [.Constant .none kk cp] pos) true Gb := t_cmp (fun _ => op_notN) ha e_non (o_notN' h) (by first | exact nomark _ | rfl)
theorem t_notN {v : V} {kk : Nat} {cp : Pos} (ha : TyE X Ga a (Is v) Gb) : TyT X Ga (.Compare a [.IsNot] [.Constant .none kk cp] pos) (!decide (v = .non)) Gb := t_cmp (fun _ => op_notN) ha e_non o_notN (by first | exact nomark _ | rfl)
/-! one argument -/
theorem a_1 (h : TyE X Ga e P Gb) (hs : ∀ i, starEach [e] (X i).env = (false, eval e (X i).env) :: starEach [] (X i).env := by intro i; rfl) : TyA X Ga [e] [P] Gb := a_cons h a_nil hs
theorem a_2 (h : TyE X Ga a P1 Gb) (h2 : TyE X Gb c P2 Gc) (hs : ∀ i, starEach [a, c] (X i).env = (false, eval a (X i).env) :: starEach [c] (X i).env := by intro i; rfl) (hs2 : ∀ i, starEach [c] (X i).env = (false, eval c (X i).env) :: starEach [] (X i).env := by intro i; rfl) : TyA X Ga [a, c] [P1, P2] Gc := a_cons h (a_cons h2 a_nil hs2) hs
theorem c_abs : CaT (fun xs H Q => ∃ i, xs = [.int i] ∧ Q (.int (if i < 0 then -i else i)) H) [IsI i] (IsI (i.natAbs : Nat)) := fun xs G H Q e p k => by
  match xs, p with
  | [v], ⟨p, _⟩ => cases p; exact ⟨i, rfl, by rw [abs_nat]; exact k _ G H (Step.refl e) rfl⟩
theorem c_int : CaT (fun xs H Q => (∃ i, xs = [V.int i] ∧ Q (.int i) H) ∨ ∃ k, xs = [.bl k] ∧ Q (.int (if k then 1 else 0)) H) [IsI i] (IsI i) := fun xs G H Q e p k => by
  match xs, p with
  | [v], ⟨p, _⟩ => cases p; exact .inl ⟨i, rfl, k _ G H (Step.refl e) rfl⟩
theorem c_intB : CaT (fun xs H Q => (∃ i, xs = [V.int i] ∧ Q (.int i) H) ∨ ∃ k, xs = [.bl k] ∧ Q (.int (if k then 1 else 0)) H) [IsB b] (IsI (if b then 1 else 0)) := fun xs G H Q e p k => by
  match xs, p with
  | [v], ⟨p, _⟩ => cases p; exact .inr ⟨b, rfl, k _ G H (Step.refl e) rfl⟩
theorem c_boolI : CaT (fun xs H Q => (∃ i, xs = [V.int i] ∧ Q (.bl (i != 0)) H) ∨ ∃ k, xs = [.bl k] ∧ Q (.bl k) H) [IsI i] (IsB (i != 0)) := fun xs G H Q e p k => by
  match xs, p with
  | [v], ⟨p, _⟩ => cases p; exact .inl ⟨i, rfl, k _ G H (Step.refl e) rfl⟩
theorem c_strI (h : i.natAbs.log2 < 1920) : CaT (fun xs H Q => ∃ i, xs = [V.int i] ∧ i.natAbs.log2 < 1920 ∧ Q (.str (toString i)) H) [IsI i] (Is (.str (toString i))) := fun xs G H Q e p k => by
  match xs, p with
  | [v], ⟨p, _⟩ => cases p; exact ⟨i, rfl, h, k _ G H (Step.refl e) rfl⟩
theorem c_lenS {z : Str} (h : z.length ≤ sizeLine) : CaT (fun xs H Q => ∃ z, xs = [V.str z] ∧ z.length ≤ sizeLine ∧ Q (.int z.length) H) [Is (.str z)] (IsI z.length) := fun xs G H Q e p k => by
  match xs, p with
  | [v], ⟨p, _⟩ => cases p; exact ⟨z, rfl, h, k _ G H (Step.refl e) rfl⟩
theorem c_intS {z : Str} {n : Int} (h : PySem.intText? z = some n) (hl : z.length ≤ 640) : CaT (fun xs H Q => ∃ a n, xs = [V.str a] ∧ PySem.intText? a = some n ∧ a.length ≤ 640 ∧ Q (.int n) H) [Is (.str z)] (IsI n) := fun xs G H Q e p k => by
  match xs, p with
  | [v], ⟨p, _⟩ => cases p; exact ⟨z, n, rfl, h, hl, k _ G H (Step.refl e) rfl⟩
section
variable (hs : ∀ i, starEach [e] (X i).env = (false, eval e (X i).env) :: starEach [] (X i).env := by intro i; rfl)
theorem e_abs (hm : ∀ i, (X i).mg "abs" = none) (ha : TyE X Ga e (IsI i) Gb) (hg : ∀ i, Gl (X i) "abs" := by intro i; rfl) (hs : ∀ i, starEach [e] (X i).env = (false, eval e (X i).env) :: starEach [] (X i).env := by intro i; rfl) (hpl : ∀ i, (backTo pos (starEach [] (X i).env)).any (·.1) = false := by intro i; rfl) :
    TyE X Ga (.Call (.Name "abs" p) [e] [] pos) (IsI (i.natAbs : Nat)) Gb := e_callB (fun _ => call_abs) hg hm bo_abs (a_1 ha hs) c_abs (by decide) (by decide) hs hpl
theorem e_len (hm : ∀ i, (X i).mg "len" = none) (hK : ∀ i, (X i).K = K) (ha : TyE X Ga e P Gb) (hq : ∀ v G, P.p v G → (Sq Ps).p v G) (hg : ∀ i, Gl (X i) "len" := by intro i; rfl) (hs : ∀ i, starEach [e] (X i).env = (false, eval e (X i).env) :: starEach [] (X i).env := by intro i; rfl) (hpl : ∀ i, (backTo pos (starEach [] (X i).env)).any (·.1) = false := by intro i; rfl) :
    TyE X Ga (.Call (.Name "len" p) [e] [] pos) (IsI Ps.length) Gb := e_callB (fun i => by have := call_len_seq (X := X i); rw [hK i] at this; exact this) hg hm bo_len (a_1 (ha.conv hq) hs) c_len (by decide) (by decide) hs hpl
theorem e_lenL (hm : ∀ i, (X i).mg "len" = none) (hK : ∀ i, (X i).K = K) (ha : TyE X Ga e (Ls Ps) Gb) (hg : ∀ i, Gl (X i) "len" := by intro i; rfl) (hs : ∀ i, starEach [e] (X i).env = (false, eval e (X i).env) :: starEach [] (X i).env := by intro i; rfl) (hpl : ∀ i, (backTo pos (starEach [] (X i).env)).any (·.1) = false := by intro i; rfl) :
    TyE X Ga (.Call (.Name "len" p) [e] [] pos) (IsI Ps.length) Gb := e_len hm hK ha (fun _ _ h => Ls.sq h) hg hs hpl
theorem e_lenT (hm : ∀ i, (X i).mg "len" = none) (hK : ∀ i, (X i).K = K) (ha : TyE X Ga e (Tp Ps) Gb) (hg : ∀ i, Gl (X i) "len" := by intro i; rfl) (hs : ∀ i, starEach [e] (X i).env = (false, eval e (X i).env) :: starEach [] (X i).env := by intro i; rfl) (hpl : ∀ i, (backTo pos (starEach [] (X i).env)).any (·.1) = false := by intro i; rfl) :
    TyE X Ga (.Call (.Name "len" p) [e] [] pos) (IsI Ps.length) Gb := e_len hm hK ha (fun _ _ h => Tp.sq h) hg hs hpl
theorem e_lenS {z : Str} (hm : ∀ i, (X i).mg "len" = none) (hz : z.length ≤ sizeLine) (ha : TyE X Ga e (Is (.str z)) Gb) (hg : ∀ i, Gl (X i) "len" := by intro i; rfl) (hs : ∀ i, starEach [e] (X i).env = (false, eval e (X i).env) :: starEach [] (X i).env := by intro i; rfl) (hpl : ∀ i, (backTo pos (starEach [] (X i).env)).any (·.1) = false := by intro i; rfl) :
    TyE X Ga (.Call (.Name "len" p) [e] [] pos) (IsI z.length) Gb := e_callB (fun _ => call_len_str) hg hm bo_len (a_1 ha hs) (c_lenS hz) (by decide) (by decide) hs hpl
theorem e_intI (hm : ∀ i, (X i).mg "int" = none) (ha : TyE X Ga e (IsI i) Gb) (hg : ∀ i, Gl (X i) "int" := by intro i; rfl) (hs : ∀ i, starEach [e] (X i).env = (false, eval e (X i).env) :: starEach [] (X i).env := by intro i; rfl) (hpl : ∀ i, (backTo pos (starEach [] (X i).env)).any (·.1) = false := by intro i; rfl) :
    TyE X Ga (.Call (.Name "int" p) [e] [] pos) (IsI i) Gb := e_callTy (fun _ => call_int1) hg hm bo_int (a_1 ha hs) c_int (by decide) (by decide) hs hpl
theorem e_intB (hm : ∀ i, (X i).mg "int" = none) (ha : TyE X Ga e (IsB b) Gb) (hg : ∀ i, Gl (X i) "int" := by intro i; rfl) (hs : ∀ i, starEach [e] (X i).env = (false, eval e (X i).env) :: starEach [] (X i).env := by intro i; rfl) (hpl : ∀ i, (backTo pos (starEach [] (X i).env)).any (·.1) = false := by intro i; rfl) :
    TyE X Ga (.Call (.Name "int" p) [e] [] pos) (IsI (if b then 1 else 0)) Gb := e_callTy (fun _ => call_int1) hg hm bo_int (a_1 ha hs) c_intB (by decide) (by decide) hs hpl
theorem e_intS {z : Str} {n : Int} (hm : ∀ i, (X i).mg "int" = none) (h : PySem.intText? z = some n) (hl : z.length ≤ 640) (ha : TyE X Ga e (Is (.str z)) Gb) (hg : ∀ i, Gl (X i) "int" := by intro i; rfl) (hs : ∀ i, starEach [e] (X i).env = (false, eval e (X i).env) :: starEach [] (X i).env := by intro i; rfl) (hpl : ∀ i, (backTo pos (starEach [] (X i).env)).any (·.1) = false := by intro i; rfl) :
    TyE X Ga (.Call (.Name "int" p) [e] [] pos) (IsI n) Gb := e_callTy (fun _ => call_int_str) hg hm bo_int (a_1 ha hs) (c_intS h hl) (by decide) (by decide) hs hpl
theorem e_boolI (hm : ∀ i, (X i).mg "bool" = none) (ha : TyE X Ga e (IsI i) Gb) (hg : ∀ i, Gl (X i) "bool" := by intro i; rfl) (hs : ∀ i, starEach [e] (X i).env = (false, eval e (X i).env) :: starEach [] (X i).env := by intro i; rfl) (hpl : ∀ i, (backTo pos (starEach [] (X i).env)).any (·.1) = false := by intro i; rfl) :
    TyE X Ga (.Call (.Name "bool" p) [e] [] pos) (IsB (i != 0)) Gb := e_callTy (fun _ => call_bool1) hg hm bo_bool (a_1 ha hs) c_boolI (by decide) (by decide) hs hpl
theorem e_strI (hm : ∀ i, (X i).mg "str" = none) (h : i.natAbs.log2 < 1920) (ha : TyE X Ga e (IsI i) Gb) (hg : ∀ i, Gl (X i) "str" := by intro i; rfl) (hs : ∀ i, starEach [e] (X i).env = (false, eval e (X i).env) :: starEach [] (X i).env := by intro i; rfl) (hpl : ∀ i, (backTo pos (starEach [] (X i).env)).any (·.1) = false := by intro i; rfl) :
    TyE X Ga (.Call (.Name "str" p) [e] [] pos) (Is (.str (toString i))) Gb := e_callTy (fun _ => call_str_int) hg hm bo_str (a_1 ha hs) (c_strI h) (by decide) (by decide) hs hpl
theorem e_listSq (hm : ∀ i, (X i).mg "list" = none) (hK : ∀ i, (X i).K = K) (ha : TyE X Ga e P Gb) (hq : ∀ v G, P.p v G → (Sq Ps).p v G) (hg : ∀ i, Gl (X i) "list" := by intro i; rfl) (hs : ∀ i, starEach [e] (X i).env = (false, eval e (X i).env) :: starEach [] (X i).env := by intro i; rfl) (hpl : ∀ i, (backTo pos (starEach [] (X i).env)).any (·.1) = false := by intro i; rfl) :
    TyE X Ga (.Call (.Name "list" p) [e] [] pos) (Ls Ps) Gb := e_callTy (fun i => by have := call_list_of (X := X i); rw [hK i] at this; exact this) hg hm bo_list (a_1 (ha.conv hq) hs) c_list (by decide) (by decide) hs hpl
theorem e_tupSq (hm : ∀ i, (X i).mg "tuple" = none) (hK : ∀ i, (X i).K = K) (ha : TyE X Ga e P Gb) (hq : ∀ v G, P.p v G → (Sq Ps).p v G) (hg : ∀ i, Gl (X i) "tuple" := by intro i; rfl) (hs : ∀ i, starEach [e] (X i).env = (false, eval e (X i).env) :: starEach [] (X i).env := by intro i; rfl) (hpl : ∀ i, (backTo pos (starEach [] (X i).env)).any (·.1) = false := by intro i; rfl) :
    TyE X Ga (.Call (.Name "tuple" p) [e] [] pos) (Tp Ps) Gb := e_callTy (fun i => by have := call_tuple_of (X := X i); rw [hK i] at this; exact this) hg hm bo_tuple (a_1 (ha.conv hq) hs) c_tuple (by decide) (by decide) hs hpl
theorem e_sum {ns : List Int} (calm : ∀ i, (X i).calm = true) (hm : ∀ i, (X i).mg "sum" = none) (hK : ∀ i, (X i).K = K) (ha : TyE X Ga e (Ls (ns.map IsI)) Gb) (hg : ∀ i, Gl (X i) "sum" := by intro i; rfl) (hs : ∀ i, starEach [e] (X i).env = (false, eval e (X i).env) :: starEach [] (X i).env := by intro i; rfl) (hpl : ∀ i, (backTo pos (starEach [] (X i).env)).any (·.1) = false := by intro i; rfl) :
    TyE X Ga (.Call (.Name "sum" p) [e] [] pos) (IsI ns.sum) Gb := e_callB (fun i => by have := cr_sum (calm i); rw [hK i] at this; exact this) hg hm bo_sum (a_1 ha hs) c_sum (by decide) (by decide) hs hpl
theorem e_all {bs : List Bool} (calm : ∀ i, (X i).calm = true) (hm : ∀ i, (X i).mg "all" = none) (hK : ∀ i, (X i).K = K) (ha : TyE X Ga e (Ls (bs.map IsB)) Gb) (hg : ∀ i, Gl (X i) "all" := by intro i; rfl) (hs : ∀ i, starEach [e] (X i).env = (false, eval e (X i).env) :: starEach [] (X i).env := by intro i; rfl) (hpl : ∀ i, (backTo pos (starEach [] (X i).env)).any (·.1) = false := by intro i; rfl) :
    TyE X Ga (.Call (.Name "all" p) [e] [] pos) (IsB (bs.all id)) Gb := e_callB (fun i => by have := cr_all (calm i); rw [hK i] at this; exact this) hg hm bo_all (a_1 ha hs) c_all (by decide) (by decide) hs hpl
theorem e_min {ns : List Int} {m : Int} (calm : ∀ i, (X i).calm = true) (hm : ∀ i, (X i).mg "min" = none) (hK : ∀ i, (X i).K = K) (ha : TyE X Ga e (Ls (ns.map IsI)) Gb) (h0 : 0 < ns.length) (hmin : ∀ m', m' ∈ ns → (∀ y, y ∈ ns → m' ≤ y) → m' = m) (hg : ∀ i, Gl (X i) "min" := by intro i; rfl) (hs : ∀ i, starEach [e] (X i).env = (false, eval e (X i).env) :: starEach [] (X i).env := by intro i; rfl) (hpl : ∀ i, (backTo pos (starEach [] (X i).env)).any (·.1) = false := by intro i; rfl) :
    TyE X Ga (.Call (.Name "min" p) [e] [] pos) (IsI m) Gb := e_callB (fun i => by have := cr_min (calm i); rw [hK i] at this; exact this) hg hm bo_min (a_1 ha hs) (c_min h0 hmin) (by decide) (by decide) hs hpl
theorem e_max {ns : List Int} {m : Int} (calm : ∀ i, (X i).calm = true) (hm : ∀ i, (X i).mg "max" = none) (hK : ∀ i, (X i).K = K) (ha : TyE X Ga e (Ls (ns.map IsI)) Gb) (h0 : 0 < ns.length) (hmin : ∀ m', m' ∈ ns → (∀ y, y ∈ ns → y ≤ m') → m' = m) (hg : ∀ i, Gl (X i) "max" := by intro i; rfl) (hs : ∀ i, starEach [e] (X i).env = (false, eval e (X i).env) :: starEach [] (X i).env := by intro i; rfl) (hpl : ∀ i, (backTo pos (starEach [] (X i).env)).any (·.1) = false := by intro i; rfl) :
    TyE X Ga (.Call (.Name "max" p) [e] [] pos) (IsI m) Gb := e_callB (fun i => by have := cr_max (calm i); rw [hK i] at this; exact this) hg hm bo_max (a_1 ha hs) (c_max h0 hmin) (by decide) (by decide) hs hpl
end
/-! index -/
theorem e_ixL (hK : ∀ l, (X l).K = K) (ha : TyE X Ga a (Ls Ps) Gb) (hc : TyE X Gb c (IsI i) Gc) (hi : atI Ps i = some P) (hs : PlainIx c := by exact fun _ _ => rfl) : TyE X Ga (.Subscript a c pos) P Gc := e_ix (r := rIx K) (fun l => by rw [← hK l]; exact ix_seq) ha hc (o_ixL hi) hs
theorem e_ixT (hK : ∀ l, (X l).K = K) (ha : TyE X Ga a (Tp Ps) Gb) (hc : TyE X Gb c (IsI i) Gc) (hi : atI Ps i = some P) (hs : PlainIx c := by exact fun _ _ => rfl) : TyE X Ga (.Subscript a c pos) P Gc := e_ix (r := rIx K) (fun l => by rw [← hK l]; exact ix_seq) ha hc (o_ixT hi) hs
theorem e_ixS {z : Str} {n : Nat} (hK : ∀ l, (X l).K = K) (hz : z.length ≤ sizeLine) (ha : TyE X Ga a (Is (.str z)) Gb) (hc : TyE X Gb c (IsI i) Gc) (hi : atI z.cps.toList i = some n) (hs : PlainIx c := by exact fun _ _ => rfl) : TyE X Ga (.Subscript a c pos) (Is (.str ⟨#[n]⟩)) Gc := e_ix (r := rIx K) (fun l => by rw [← hK l]; exact ix_seq) ha hc (o_ixS hz hi) hs
end
end Ty
end
section
/-! Short forms of statements, comprehensions. -/
namespace Ty
open PySem PySem.Spec PyProof.Rows L2
open Evl (Ex)
section
variable {ι : Type} {X : ι → Cx} {Ga Gb Gc Gd : List Sl} {e a c d elt iter : Expr} {P P1 P2 : Pd} {Ps Qs its : List Pd} {pos p px py : Pos} {x y : Str} {K : PySem.W.Frag} {n : Option (List Sl)} {R : Pd} {O : Option Mo} {rest : List Stmt} {M : Mo} {scope : Scope}
/-- x = e -/
theorem b_st (k : Nat) (nd : ∀ i, (X i).N.Nodup) (h : TyE X Ga e P Gb) (hr : TyB X (Gb.set k (.is P)) rest n R O) (hN : ∀ i, (X i).N[k]? = some x := by intro i; rfl) (hx : ∀ i, Loc (X i).env.scope x := by intro i; first | exact Or.inl rfl | exact Or.inr rfl)
    (hs : ∀ i, swapsWith e (some (.Name x p)) pos.line (X i).env = pure false := by intro i; rfl) (hf : ∀ i, (X i).fn x = true ∨ (X i).env.scope.names.lookup x = some .local := by intro i; first | exact .inl rfl | exact .inr rfl) : TyB X Ga (.Assign [.Name x p] e pos :: rest) n R O :=
  b_set (fun i te he => ps_set (nd i) (hN i) (hx i) he (hs i) (hf i)) h hr
/-- x = e, a new object that will change -/
theorem b_stM (k : Nat) (nd : ∀ i, (X i).N.Nodup) {te : TE} (mk : ∀ i, PE (X i) e te) (h : TyN te Ga M Gb) (hr : TyB X (Gb.set k (.mu M)) rest n R O) (hN : ∀ i, (X i).N[k]? = some x := by intro i; rfl) (hx : ∀ i, Loc (X i).env.scope x := by intro i; first | exact Or.inl rfl | exact Or.inr rfl)
    (hs : ∀ i, swapsWith e (some (.Name x p)) pos.line (X i).env = pure false := by intro i; rfl) (hf : ∀ i, (X i).fn x = true ∨ (X i).env.scope.names.lookup x = some .local := by intro i; first | exact .inl rfl | exact .inr rfl) : TyB X Ga (.Assign [.Name x p] e pos :: rest) n R O :=
  b_setM (fun i => ps_set (nd i) (hN i) (hx i) (mk i) (hs i) (hf i)) h hr
/-- x, y = e1, e2 -/
theorem b_pr {kt k2 : Nat} {pt pt2 : Pos} {i j : Nat} (nd : ∀ l, (X l).N.Nodup) (calm : ∀ l, (X l).calm = true) (h : TyA X Ga [a, c] [P1, P2] Gb) (hr : TyB X ((Gb.set i (.is P1)).set j (.is P2)) rest n R O) (hi : ∀ l, (X l).N[i]? = some x := by intro i; rfl) (hj : ∀ l, (X l).N[j]? = some y := by intro i; rfl) (hij : i ≠ j := by decide)
    (hx : ∀ l, (X l).env.scope.names.lookup x = some .local := by intro i; rfl) (hy : ∀ l, (X l).env.scope.names.lookup y = some .local := by intro i; rfl) {kk ll} (hw : ∀ l, swappedStores [.Tuple [.Name x px, .Name y py] kt pt] (.Tuple [a, c] kk ll) (X l).env = pure (some [x, y]) := by intro i; rfl)
    (hs : ∀ l, swapsWithSole [.Tuple [.Name x px, .Name y py] kt pt] (.Tuple [a, c] kk ll) pos.line (X l).env = pure false := by intro i; rfl) : TyB X Ga (.Assign [.Tuple [.Name x px, .Name y py] kt pt] (.Tuple [a, c] kk ll) pos :: rest) n R O :=
  b_par (i := i) (j := j) (fun l => ps_par (calm l) (nd l) (hi l) (hj l) hij (hx l) (hy l) (uA_pa l) (hw l) (hs l)) h hr
/-- a name as a target -/
theorem g_nm (k : Nat) (nd : ∀ i, (X i).N.Nodup) (hN : ∀ i, (X i).N[k]? = some x := by intro i; rfl) (hx : ∀ i, Loc (X i).env.scope x := by intro i; first | exact Or.inl rfl | exact Or.inr rfl) (hf : ∀ i, (X i).fn x = true ∨ (X i).env.scope.names.lookup x = some .local := by intro i; first | exact .inl rfl | exact .inr rfl) :
    TyG X Ga P (.Name x pos) [k] (Ga.set k (.is P)) := g_name fun i => pg_name (nd i) (hN i) (hx i) (hf i)
/-- a pair of names as a target -/
theorem g_pr {kk : Nat} (i j : Nat) (hK : ∀ l, (X l).K = K) (calm : ∀ l, (X l).calm = true) (nd : ∀ l, (X l).N.Nodup) (hi : ∀ l, (X l).N[i]? = some x := by intro i; rfl) (hj : ∀ l, (X l).N[j]? = some y := by intro i; rfl) (hx : ∀ l, Loc (X l).env.scope x := by intro i; first | exact Or.inl rfl | exact Or.inr rfl)
    (hy : ∀ l, Loc (X l).env.scope y := by intro i; first | exact Or.inl rfl | exact Or.inr rfl) (hfx : ∀ i, (X i).fn x = true ∨ (X i).env.scope.names.lookup x = some .local := by intro i; first | exact .inl rfl | exact .inr rfl) (hfy : ∀ i, (X i).fn y = true ∨ (X i).env.scope.names.lookup y = some .local := by intro i; first | exact .inl rfl | exact .inr rfl)
    (hn : ∀ l, (assignEach [.Name x px, .Name y py] (X l).env).length = 2 := by intro i; rfl) (hst : ∀ l, (assignEach [.Name x px, .Name y py] (X l).env).findIdx? (·.1) = none := by intro i; rfl)
    (h1 : ∀ l, PGs (X l) [.Name x px, .Name y py] (gCons (gName i) (gCons (gName j) gNil)) := by intro l; exact pgs_cons (pg_name (by assumption) (by rfl) (by first | exact Or.inl rfl | exact Or.inr rfl)) (pgs_cons (pg_name (by assumption) (by rfl) (by first | exact Or.inl rfl | exact Or.inr rfl)) pgs_nil)) :
    TyG X Ga (Tp [P1, P2]) (.Tuple [.Name x px, .Name y py] kk pos) [i, j] ((Ga.set i (.is P1)).set j (.is P2)) := g_two hK fun l => pg_tup (calm l) (h1 l) (hn l) (hst l)
/-- [elt for x in iter]: nothing is changed -/
theorem n_lcN {α : Type} {ds : List α} {it f : α → Pd} (k : Nat) (nd : ∀ i, (X i).N.Nodup) (hi : TyI X Ga (.Name x px) iter (ds.map it) Gb) (he : ∀ d ∈ ds, TyE (blkX X scope) ((wipeG Gb [k]).set k (.is (it d))) elt (f d) ((wipeG Gb [k]).set k (.is (it d)))) (hz : ds.length ≤ sizeLine) (hO : ∀ i M, Gb[i]? = some (Sl.own M) → i ≠ k)
    (hN : ∀ i, (X i).N[k]? = some x := by intro i; rfl) (hx : ∀ i, Loc (blkX X scope i).env.scope x := by intro i; first | exact Or.inl rfl | exact Or.inr rfl) (hf : ∀ i, (blkX X scope i).fn x = true ∨ (blkX X scope i).env.scope.names.lookup x = some .local := by intro i; first | exact .inl rfl | exact .inr rfl) :
    TyN (tLc (uI X (.Name x px) iter) (uG (blkX X scope) (.Name x px)) tYes (uE (blkX X scope) elt) [k]) Ga (Ml (ds.map f)) Gb := by
  have e1 : ∀ s : Sl, wipeG ((wipeG Gb [k]).set k s) [k] = wipeG Gb [k] := fun s => by
    show ((Gb.set k .any).set k s).set k .any = Gb.set k .any
    rw [List.set_set, List.set_set]
  exact lc_map (vs := [k]) (ks := [k]) hi hz (fun i M h => by simpa using hO i M h) (fun _ h => h)
    (fun d hd => g_name fun i => pg_name (nd i.1) (hN i.1) (hx i) (hf i)) he (fun d _ => by rw [e1]; exact GaLe.refl _) (fun d _ => by rw [e1]; exact GaLe.refl _)
theorem e_lcN {α : Type} {ds : List α} {it f : α → Pd} (k : Nat) (nd : ∀ i, (X i).N.Nodup) (calm : ∀ i, (X i).calm = true) (hi : TyI X Ga (.Name x px) iter (ds.map it) Gb) (he : ∀ d ∈ ds, TyE (blkX X scope) ((wipeG Gb [k]).set k (.is (it d))) elt (f d) ((wipeG Gb [k]).set k (.is (it d)))) (hz : ds.length ≤ sizeLine) (hO : ∀ i M, Gb[i]? = some (Sl.own M) → i ≠ k)
    (ok : ∀ i, BlkOk (X i).N (X i).env.scope scope [(x, k)] := by intro i; exact blkOk_by rfl) (hs : ∀ i x, foldedSetIterable iter (X i).env x = pure x := by intro _ _; rfl)
    (hN : ∀ i, (X i).N[k]? = some x := by intro i; rfl) (hx : ∀ i, Loc (blkX X scope i).env.scope x := by intro i; first | exact Or.inl rfl | exact Or.inr rfl) (hf : ∀ i, (blkX X scope i).fn x = true ∨ (blkX X scope i).env.scope.names.lookup x = some .local := by intro i; first | exact .inl rfl | exact .inr rfl) :
    TyE X Ga (.ListComp elt [⟨.Name x px, iter, [], 0⟩] scope pos) (Ls (ds.map f)) Gb :=
  e_r ((n_lcN k nd hi he hz hO hN hx hf).known Ml.known) (fun i => mk_lc calm nd ok hs i)
end
end Ty
end
section
/-! for over data. -/
namespace Ty
open PySem PySem.Spec PyProof.Rows L2
open Evl (Ex)
section
variable {ι : Type} {X : ι → Cx} {Ga : List Sl} {tg iter : Expr} {pos : Pos} {n : Option (List Sl)} {R : Pd} {O : Option Mo} {body rest : List Stmt} {ks : List Nat}
theorem foldl_take {α δ : Type} {step : δ → α → δ} {d0 : δ} {ds : List α} {k : Nat} {a : α} (h : ds[k]? = some a) : (ds.take (k + 1)).foldl step d0 = step ((ds.take k).foldl step d0) a := by
  rw [take_more h, List.foldl_append]
  rfl
theorem b_forF {α δ : Type} (ds : List α) (it : α → Pd) (Inv : δ → List Sl) (Bd : δ → α → List Sl) (step : δ → α → δ) (d0 : δ) (ok : List α → δ → Prop) (h0 : ok [] d0) (nox : ∀ i, (X i).xe = fun _ _ => False) (calm : ∀ i, (X i).calm = true) (hi : TyI X Ga tg iter (ds.map it) (Inv d0))
    (hg : ∀ s, ∀ a ∈ ds, TyG X (Inv s) (it a) tg ks (Bd s a)) (hb : ∀ pre s, ∀ a ∈ ds, ok pre s → (∃ post, ds = pre ++ a :: post) → TyB X (Bd s a) body (some (Inv (step s a))) R O) (hok : ∀ pre s, ∀ a ∈ ds, ok pre s → (∃ post, ds = pre ++ a :: post) → ok (pre ++ [a]) (step s a)) (hr : ok ds (ds.foldl step d0) → TyB X (Inv (ds.foldl step d0)) rest n R O)
    (hs : ∀ i x, foldedSetIterable iter (X i).env x = pure x := by intro _ _; rfl) : TyB X Ga (.For tg iter body [] pos :: rest) n R O := by
  have keep : ∀ k, k ≤ ds.length → ok (ds.take k) ((ds.take k).foldl step d0) := by
    intro k
    induction k with
    | zero => intro _; exact h0
    | succ k ih =>
      intro hk
      have e : ds[k]? = some ds[k] := List.getElem?_eq_getElem (by omega)
      rw [foldl_take e, take_more e]
      exact hok _ _ _ (List.getElem_mem (by omega)) (ih (by omega)) ⟨ds.drop (k + 1), by rw [← List.drop_eq_getElem_cons, List.take_append_drop]⟩
  cases ds with
  | nil =>
    refine b_for (X := X) (ks := ks) (Inv := fun _ => Inv d0) (Bd := fun _ => Ga) (its := []) nox calm hi (fun k P h => by simp at h) (fun k h => by simp at h) (hr (keep 0 (Nat.zero_le _))) hs
  | cons c0 r =>
    generalize hds : c0 :: r = ds at *
    have gd : ∀ k, k < ds.length → ds[k]? = some (ds.getD k c0) ∧ ds.getD k c0 ∈ ds := fun k hk => by
      have e : ds[k]? = some ds[k] := List.getElem?_eq_getElem hk
      have e2 : ds.getD k c0 = ds[k] := by simp [List.getD, e]
      rw [e2]
      exact ⟨e, List.getElem_mem hk⟩
    refine b_for (X := X) (ks := ks) (Inv := fun k => Inv ((ds.take k).foldl step d0)) (Bd := fun k => Bd ((ds.take k).foldl step d0) (ds.getD k c0)) (its := ds.map it) nox calm hi (fun k P h => ?_) (fun k h => ?_) ?_ hs
    · rw [List.getElem?_map] at h
      have hk : k < ds.length := by
        cases e : ds[k]? with
        | none => rw [e] at h; cases h
        | some z => exact (List.getElem?_eq_some_iff.mp e).1
      rw [(gd k hk).1] at h
      cases h
      exact hg _ _ (gd k hk).2
    · have hk : k < ds.length := by simpa using h
      have e := (gd k hk).1
      rw [foldl_take e]
      refine hb (ds.take k) _ _ (gd k hk).2 (keep k (by omega)) ⟨ds.drop (k + 1), ?_⟩
      have e2 : ds.getD k c0 = ds[k] := by simp [List.getD, List.getElem?_eq_getElem hk]
      rw [e2, ← List.drop_eq_getElem_cons, List.take_append_drop]
    · rw [List.length_map, List.take_length]
      have := keep ds.length (Nat.le_refl _)
      rw [List.take_length] at this
      exact hr this
end
end Ty
end
section
/-! Chains of comparisons. -/
namespace Ty
open PySem PySem.Spec PyProof.Rows L2
open Evl (Ex)
section
variable {ι : Type} {X : ι → Cx} {Ga Gb Gc Gd : List Sl} {e a c d : Expr} {pos : Pos} {i j k : Int}
theorem t_leLt (ha : TyE X Ga a (IsI i) Ga) (hc : TyE X Ga c (IsI j) Ga) (hd : TyE X Ga d (IsI k) Ga) (mk : ∀ (l : ι) (ta tb tc : TE), PE (X l) a ta → PE (X l) c tb → PE (X l) d tc → PT (X l) (.Compare a [.LtE, .Lt] [c, d] pos) (tTest (tChain (rI0 fun i j => .bl (decide (i ≤ j))) (rI0 fun i j => .bl (decide (i < j))) ta tb tc)) := by exact fun _ _ _ _ h1 h2 h3 => pt_chain op_le op_lt h1 h2 h3) :
    TyT X Ga (.Compare a [.LtE, .Lt] [c, d] pos) (decide (i ≤ j) && decide (j < k)) Ga :=
  t_chain (r := rI0 fun i j => .bl (decide (i ≤ j))) (r' := rI0 fun i j => .bl (decide (i < j))) (fun _ => op_le) (fun _ => op_lt) ha hc (fun _ => hd) (fun _ => GaLe.refl _) o_rI0 (fun _ => o_rI0) fun l => mk l _ _ _ (uE_pe l) (uE_pe l) (uE_pe l)
theorem t_leLe (ha : TyE X Ga a (IsI i) Ga) (hc : TyE X Ga c (IsI j) Ga) (hd : TyE X Ga d (IsI k) Ga) (mk : ∀ (l : ι) (ta tb tc : TE), PE (X l) a ta → PE (X l) c tb → PE (X l) d tc → PT (X l) (.Compare a [.LtE, .LtE] [c, d] pos) (tTest (tChain (rI0 fun i j => .bl (decide (i ≤ j))) (rI0 fun i j => .bl (decide (i ≤ j))) ta tb tc)) := by exact fun _ _ _ _ h1 h2 h3 => pt_chain op_le op_le h1 h2 h3) :
    TyT X Ga (.Compare a [.LtE, .LtE] [c, d] pos) (decide (i ≤ j) && decide (j ≤ k)) Ga :=
  t_chain (r := rI0 fun i j => .bl (decide (i ≤ j))) (r' := rI0 fun i j => .bl (decide (i ≤ j))) (fun _ => op_le) (fun _ => op_le) ha hc (fun _ => hd) (fun _ => GaLe.refl _) o_rI0 (fun _ => o_rI0) fun l => mk l _ _ _ (uE_pe l) (uE_pe l) (uE_pe l)
end
section
variable {P : Program} {w : World} {K : PySem.W.Frag} {mg : Str → Option Value} {base : Heap} {x qual p1 pv : Str} {params : Arguments} {body : List Stmt} {scope : Scope} {kws : List (Str × V)} {f : Addr} {fd : FuncData} {N : List Str} {k : Nat} {D : Type} {A : D → List Pd} {S : D → Prop} {R : D → Pd} {M M' : D → Mo}
/-- def f(self, *v), self's object is changed -/
theorem fn_so (F : FunD K x qual params body scope [] kws f fd) (Sc : FnScope N ([p1] ++ [pv]) scope) (hz : ∀ d, S d → (A d).length ≤ sizeLine)
    (hb0 : ∀ (kV doc pm : Value) (an : Option Addr) (cdv ct a : Value), bindArgs (PySem.W.fnOf x qual params body scope .none kV doc pm an cdv ct) ⟨[a], []⟩ = (newTuple [] >>= fun t => pure [(p1, a), (pv, t)]))
    (hb1 : ∀ (kV doc pm : Value) (an : Option Addr) (cdv ct a r : Value) (rs : List Value), bindArgs (PySem.W.fnOf x qual params body scope .none kV doc pm an cdv ct) ⟨a :: r :: rs, []⟩ = (newTuple (r :: rs) >>= fun t => pure [(p1, a), (pv, t)]))
    (hB : ∀ d, S d → BodyOk P w K mg base N qual scope body k (padG N [.own (M d), .is (Tp (A d))]) (R d) (some (M' d))) : FnR P w K mg base CX0 (k + 1) f (SpO A S R M M') := by
  obtain ⟨oc, od, dV, kV, doc, pm, an, cdv, ct, osl, rfl, lk, hcd, hD, hK⟩ := F.ex
  have hdV : dV = .none := by
    rcases hD with ⟨_, h⟩ | ⟨h, _⟩
    · exact h
    · exact absurd rfl h
  subst hdV
  have F2 := StX.fn_star (P := P) (w := w) (mg := mg) (base := base) (CX := CX0) (k := k) (N := N) (ps := [p1]) (pv := pv) (sp := fun vs H Q _ => ∃ (d : D) (G : Hp) (p tp : Addr) (ws : List V) (o : HO), vs = [V.ref p, V.ref tp] ∧ S d ∧ Ex G H ∧ G p = none ∧ H p = some o ∧ (M d).m o G ∧ G tp = some (.tup ws) ∧ AllP (A d) ws G ∧
    ∀ v G' H' o', Step (some p) G H G' H' → G' p = none → H' p = some o' → (M' d).m o' G' → (R d).p v G' → Q v H') lk hcd Sc StX.cxUp_none (StX.bind_star1 (B := fun us => bindArgs (PySem.W.fnOf x qual params body scope .none kV doc pm an cdv ct) ⟨us, []⟩) (hb0 kV doc pm an cdv ct) (hb1 kV doc pm an cdv ct)) ?_
  · refine F2.imp fun vs H Q E ⟨d, G, p, ws, o, ev, hs, e, hg, ho, hm, hp, kk⟩ => ?_
    refine ⟨[V.ref p], ws, ev, rfl, by rw [hp.length]; exact hz d hs, fun tp hn => ?_⟩
    have t : Step (some p) G H (upd G tp (.tup ws)) (upd H tp (.tup ws)) := Step.new e hn
    have np : p ≠ tp := fun z => by rw [z, hn] at ho; cases ho
    exact ⟨d, upd G tp (.tup ws), p, tp, ws, o, rfl, hs, t.s, by rw [upd_ne np]; exact hg, by rw [upd_ne np]; exact ho, (M d).mono t.k hm, upd_same, hp.mono t.k, fun v G' H' o' t2 => kk v G' H' o' (t.trans t2)⟩
  · rintro Ar outer s H vs Q E hr ⟨d, G, p, tp, ws, o, ev, hs, e, hg, ho, hm, ht, hp, kk⟩
    subst ev
    obtain ⟨n, hB', hn⟩ := hB d hs f cdv Ar outer s H E (fam_body hr)
    refine ⟨uB _ body, PSs.nox (uB_ps (X := bodyX P w K mg base N qual scope f cdv Ar outer s H E) ()), ?_⟩
    have fin : ∀ v G' H', RetOk ⟨some p, G, H⟩ (R d) (some (M' d)) v G' H' → Q v H' := fun v G' H' r => by
      obtain ⟨a, o', ea, ga, ha, ma⟩ := r.o _ rfl
      cases ea
      exact kk v G' H' o' r.st ga ha ma r.r
    have st := start_own (N := N) (Ps := [Tp (A d)]) (vs := [V.ref tp]) (F := Fr ⟨some p, G, H⟩) e hg ho hm ⟨⟨tp, ws, rfl, ht, hp⟩, trivial⟩
    refine hB' ⟨some p, G, H⟩ (L2.start N [.ref p, .ref tp]) G H _ ⟨st, Step.refl e⟩ (fun σ' G' H' _ f' => ?_) fin
    cases n with
    | none => exact f'.elim
    | some Ge => exact fin .non G' H' (FS.ret f' (hn Ge rfl).2 ((hn Ge rfl).1 G'))
end
end Ty
end
section
/-! Own instances: walked, len, list. -/
namespace Ty
open PySem PySem.Spec PyProof.Rows L2
open Evl (Ex)
/-- an own __iter__ over the tuple in a field -/
structure Itf (Pr : Program) (w : World) (K : PySem.W.Frag) (mg : Str → Option Value) (base : Heap) (k : Nat) (C : Addr) (fld : Str) : Prop where
  ex : ∃ g, Ow.FnIt Pr w K mg base k g C fld ∧ PySem.W.findIn K (.ref C) "__iter__" = some (some (.ref g)) ∧ PySem.W.isFn K (.ref g) = true
section
variable {ι : Type} {X : ι → Cx} {Ga Gb Gc : List Sl} {e a c tg : Expr} {Ps : List Pd} {pos p : Pos} {x fld : Str} {Pr : Program} {w : World} {K : PySem.W.Frag} {mg : Str → Option Value} {base : Heap} {j k : Nat} {C : Addr} {Fs Fs1 Fs2 : List (Str × Pd)} {D : Type} {A : D → List Pd} {S : D → Prop} {R : D → Pd}
theorem fld_at {dx : Addr} {vs : List V} {G : Hp} {i : Nat} {P : Pd} (hp : AllP (Fs.map Prod.snd) vs G) (hi : Fs[i]? = some (fld, P)) (ht : AtF Fs fld i) : ∃ u, ((Fs.map Prod.fst).zip vs).lookup fld = some u ∧ P.p u G := by
  have hm : (Fs.map Prod.snd)[i]? = some P := by rw [List.getElem?_map, hi]; rfl
  obtain ⟨u, hu, pu⟩ := hp.get hm
  exact ⟨u, lookup_at ht.1 ht.2 hu, pu⟩
theorem i_own (fam : Fam X Pr w K mg base j) (F : Itf Pr w K mg base k C fld) (i : Nat) (h : TyE X Ga e (In C Fs) Gb) (hi : Fs[i]? = some (fld, Tp Ps)) (ht : AtF Fs fld i) (hk : k ≤ j := by decide) : TyI X Ga tg e Ps Gb := fun q F' σ G H I R kk => by
  obtain ⟨g, Fi, hs, hf⟩ := F.ex
  refine ⟨Ow.iOwn K C fld (uE X e), fun l => by rw [← fam.K l]; exact Ow.pi_own (by rw [fam.K l]; exact hs) (by rw [fam.K l]; exact hf) (by rw [fam.prog l, fam.w l, fam.K l, fam.mg l, fam.base l]; exact Fi) ((fam.room l).mono hk) (uE_pe l), h q F' σ G H I _ fun v G1 H1 t1 I1 p1 => ?_⟩
  obtain ⟨a, dx, vs, ev, ho, hp⟩ := p1
  obtain ⟨u, hu, t, zs, eu, hz, pz⟩ := fld_at (dx := a) hp hi ht
  subst eu
  exact ⟨a, dx, _, t, zs, ev, I1.sub _ _ ho, hu, SqT.of (I1.sub _ _ hz), kk _ G1 H1 t1 I1 (walk_tup hz pz)⟩
/-- list(o) -/
theorem e_listO (fam : Fam X Pr w K mg base j) (F : Itf Pr w K mg base k C fld) (L : Sf Pr w K mg base k C "__len__" (Ow.spLn K C fld)) (i : Nat) (hm : ∀ i, (X i).mg "list" = none) (h : TyE X Ga e (In C Fs) Gb) (hi : Fs[i]? = some (fld, Tp Ps)) (ht : AtF Fs fld i) (hk : k + 3 ≤ j := by decide)
    (hg : ∀ i, Gl (X i) "list" := by intro i; rfl) (hs : ∀ i, starEach [e] (X i).env = (false, eval e (X i).env) :: starEach [] (X i).env := by intro i; rfl) (hpl : ∀ i, (backTo pos (starEach [] (X i).env)).any (·.1) = false := by intro i; rfl) : TyE X Ga (.Call (.Name "list" p) [e] [] pos) (Ls Ps) Gb := by
  obtain ⟨g, Fi, hs', hf⟩ := F.ex
  obtain ⟨gl, Fl, hsl, hfl⟩ := L.ex
  refine e_callTy (r := Ow.rListO K C fld) (fun l => by rw [← fam.K l]; exact Ow.call_listO (fam.calm l) (by rw [fam.K l]; exact hs') (by rw [fam.K l]; exact hf) (by rw [fam.prog l, fam.w l, fam.K l, fam.mg l, fam.base l]; exact Fi) (by rw [fam.K l]; exact hsl) (by rw [fam.K l]; exact hfl) (by rw [fam.prog l, fam.w l, fam.K l, fam.mg l, fam.base l]; exact Fl) ((fam.room l).mono hk)) hg hm bo_list (a_1 h hs) ?_ (by decide) (by decide) hs hpl
  intro xs G H Q e' p1 kk
  match xs, p1 with
  | [v], p1 =>
    obtain ⟨⟨a, dx, vs, rfl, ho, hp⟩, _⟩ := p1
    obtain ⟨u, hu, t, zs, eu, hz, pz⟩ := fld_at (dx := a) hp hi ht
    subst eu
    refine ⟨a, dx, _, t, zs, rfl, e' _ _ ho, hu, SqT.of (e' _ _ hz), fun H' q ex hn => ?_⟩
    have t1 : Step none G H G H' := ⟨Ex.refl G, Ex.trans e' ex, fun a o _ h => ex a o h, fun a o h => .inl ⟨o, h⟩, fun a h => nomatch h⟩
    have t2 : Step none G H' (upd G q (.lst zs)) (upd H' q (.lst zs)) := Step.new t1.s hn
    exact kk _ _ _ (t1.trans t2) ⟨q, zs, rfl, upd_same, pz.mono t2.k⟩
/-- len(o) -/
theorem e_lenO (fam : Fam X Pr w K mg base j) (L : Sf Pr w K mg base k C "__len__" (SpD A S R)) (d : D) {n : Nat} (hA : A d = [In C Fs]) (hs : S d) (hR : R d = IsI (n : Nat)) (hn : n < 2 ^ 62) (hm : ∀ i, (X i).mg "len" = none) (h : TyE X Ga e (In C Fs) Gb) (hk : k + 1 ≤ j := by decide)
    (hg : ∀ i, Gl (X i) "len" := by intro i; rfl) (hs' : ∀ i, starEach [e] (X i).env = (false, eval e (X i).env) :: starEach [] (X i).env := by intro i; rfl) (hpl : ∀ i, (backTo pos (starEach [] (X i).env)).any (·.1) = false := by intro i; rfl) : TyE X Ga (.Call (.Name "len" p) [e] [] pos) (IsI (n : Nat)) Gb := by
  obtain ⟨gl, Fl, hsl, hfl⟩ := L.ex
  refine e_callB (fun l => Ow.call_lenO (C := C) (by rw [fam.K l]; exact hsl) (by rw [fam.K l]; exact hfl) (by rw [fam.prog l, fam.w l, fam.K l, fam.mg l, fam.base l]; exact Fl) ((fam.room l).mono hk)) hg hm bo_len (a_1 h hs') ?_ (by decide) (by decide) hs' hpl
  intro xs G H Q e' p1 kk
  match xs, p1 with
  | [v], p1 =>
    obtain ⟨p1, _⟩ := p1
    obtain ⟨a, dx, vs, ev, ho, hp⟩ := id p1
    subst ev
    refine ⟨.ref a, rfl, a, dx, _, rfl, e' _ _ ho, d, G, hs, e', by rw [hA]; exact ⟨p1, trivial⟩, fun v G' H' t r => ?_⟩
    rw [hR] at r
    exact ⟨_, r, ⟨by omega, by omega⟩, kk v G' H' t r⟩
/-- str(o) -/
theorem e_strO (fam : Fam X Pr w K mg base j) (L : Sf Pr w K mg base k C "__str__" (SpD A S R)) (d : D) {z : Str} (hA : A d = [In C Fs]) (hs : S d) (hR : R d = Is (.str z)) (hm : ∀ i, (X i).mg "str" = none) (h : TyE X Ga e (In C Fs) Gb) (hk : k + 2 ≤ j := by decide)
    (hg : ∀ i, Gl (X i) "str" := by intro i; rfl) (hs' : ∀ i, starEach [e] (X i).env = (false, eval e (X i).env) :: starEach [] (X i).env := by intro i; rfl) (hpl : ∀ i, (backTo pos (starEach [] (X i).env)).any (·.1) = false := by intro i; rfl) : TyE X Ga (.Call (.Name "str" p) [e] [] pos) (Is (.str z)) Gb := by
  obtain ⟨gl, Fl, hsl, hfl⟩ := L.ex
  refine e_callTy (fun l => Ow.call_strO (C := C) (by rw [fam.K l]; exact hsl) (by rw [fam.K l]; exact hfl) (by rw [fam.prog l, fam.w l, fam.K l, fam.mg l, fam.base l]; exact Fl) ((fam.room l).mono hk)) hg hm bo_str (a_1 h hs') ?_ (by decide) (by decide) hs' hpl
  intro xs G H Q e' p1 kk
  match xs, p1 with
  | [v], p1 =>
    obtain ⟨p1, _⟩ := p1
    obtain ⟨a, dx, vs, ev, ho, hp⟩ := id p1
    subst ev
    refine ⟨.ref a, rfl, a, dx, _, rfl, e' _ _ ho, d, G, hs, e', by rw [hA]; exact ⟨p1, trivial⟩, fun v G' H' t r => ?_⟩
    rw [hR] at r
    exact ⟨_, r, kk v G' H' t r⟩
/-- a op b, -a, a == b, a != b of own instances -/
theorem e_bin2 {op : Operator} (fam : Fam X Pr w K mg base j) (L : Sf Pr w K mg base k C (PySem.dunder op.info.2) (SpD A S R)) (hc : PySem.W.selfFirst K C = true) (d : D) (hA : A d = [In C Fs1, In C Fs2]) (hs : S d) (ha : TyE X Ga a (In C Fs1) Gb) (hb : TyE X Gb c (In C Fs2) Gc) (hk : k ≤ j := by decide) : TyE X Ga (.BinOp a op c pos) (R d) Gc := by
  obtain ⟨gl, Fl, hsl, hfl⟩ := L.ex
  exact e_op (fun l => Ow.op_bin (C := C) (by rw [fam.K l]; exact hc) (by rw [fam.K l]; exact hsl) (by rw [fam.K l]; exact hfl) (by rw [fam.prog l, fam.w l, fam.K l, fam.mg l, fam.base l]; exact Fl) ((fam.room l).mono hk)) ha hb (o_own d hA hs)
theorem e_neg1 (fam : Fam X Pr w K mg base j) (L : Sf Pr w K mg base k C "__neg__" (SpD A S R)) (d : D) (hA : A d = [In C Fs1]) (hs : S d) (ha : TyE X Ga a (In C Fs1) Gb) (hk : k ≤ j := by decide) : TyE X Ga (.UnaryOp .USub a pos) (R d) Gb := by
  obtain ⟨gl, Fl, hsl, hfl⟩ := L.ex
  exact e_un (fun l => Ow.un_negO (C := C) (by rw [fam.K l]; exact hsl) (by rw [fam.K l]; exact hfl) (by rw [fam.prog l, fam.w l, fam.K l, fam.mg l, fam.base l]; exact Fl) ((fam.room l).mono hk)) ha (u_own d hA hs)
theorem e_eq2 (fam : Fam X Pr w K mg base j) (L : Sf Pr w K mg base k C "__eq__" (SpD A S R)) (d : D) (hA : A d = [In C Fs1, In C Fs2]) (hs : S d) (ha : TyE X Ga a (In C Fs1) Gb) (hb : TyE X Gb c (In C Fs2) Gc) (hk : k ≤ j := by decide) (hm : behindInMarks .Eq c = false := by first | exact nomark _ | rfl) : TyE X Ga (.Compare a [.Eq] [c] pos) (R d) Gc := by
  obtain ⟨gl, Fl, hsl, hfl⟩ := L.ex
  exact e_cmp (fun l => Ow.op_eqO (C := C) (by rw [fam.K l]; exact hsl) (by rw [fam.K l]; exact hfl) (by rw [fam.prog l, fam.w l, fam.K l, fam.mg l, fam.base l]; exact Fl) ((fam.room l).mono hk)) ha hb (o_own d hA hs) hm
/-- what != asks of the class, with its __eq__'s promise -/
structure Nef (Pr : Program) (w : World) (K : PySem.W.Frag) (mg : Str → Option Value) (base : Heap) (k : Nat) (C : Addr) (sp : Sp) : Prop where
  ex : ∃ g, FnR Pr w K mg base CX0 k g sp ∧ Ow.NeC K C g
theorem t_ne2 (fam : Fam X Pr w K mg base j) (L : Nef Pr w K mg base k C (SpD A S R)) (d : D) {b : Bool} (hA : A d = [In C Fs1, In C Fs2]) (hs : S d) (hR : R d = IsB b) (ha : TyE X Ga a (In C Fs1) Gb) (hb : TyE X Gb c (In C Fs2) Gc) (hk : k + 1 ≤ j := by decide) (hm : behindInMarks .NotEq c = false := by first | exact nomark _ | rfl) : TyT X Ga (.Compare a [.NotEq] [c] pos) (!b) Gc := by
  obtain ⟨gl, Fl, N⟩ := L.ex
  exact t_cmp (fun l => Ow.op_neO (C := C) (by rw [fam.K l]; exact N) (by rw [fam.prog l, fam.w l, fam.K l, fam.mg l, fam.base l]; exact Fl) ((fam.room l).mono hk)) ha hb (o_ownNe d hA hs hR) hm
end
end Ty
end
section
/-! Two loops in a comprehension. -/
namespace Ty
open PySem PySem.Spec PyProof.Rows L2
open Evl (Ex)
section
variable {ι : Type} {X : ι → Cx} {Ga Gb : List Sl} {tg iter elt tg1 iter1 : Expr} {scope : Scope} {vs vs1 ks ks1 : List Nat} {tt1 : TT} {α β : Type}
theorem n_lc2 {ds : List α} {es : α → List β} {it : α → Pd} {it1 : α → β → Pd} {f : α → β → Pd} {t : α → β → Bool} {Bd : α → List Sl} {Bi : α → β → List Sl} (hi : TyI X Ga tg iter (ds.map it) Gb) (hO : ∀ i M, Gb[i]? = some (Sl.own M) → i ∉ vs) (hks : ∀ k ∈ ks, k ∈ vs) (hks1 : ∀ k ∈ ks1, k ∈ vs1) (hv : ∀ k ∈ vs1, k ∈ vs)
    (hg : ∀ a ∈ ds, TyG (blkX X scope) (wipeG Gb vs) (it a) tg ks (Bd a)) (hi1 : ∀ a ∈ ds, TyI (blkX X scope) (Bd a) tg1 iter1 ((es a).map (it1 a)) (Bd a)) (hg1 : ∀ a ∈ ds, ∀ c ∈ es a, TyG (blkX X scope) (wipeG (Bd a) vs1) (it1 a c) tg1 ks1 (Bi a c))
    (ht : ∀ a ∈ ds, ∀ c ∈ es a, TyTT tt1 (Bi a c) (t a c) (Bi a c)) (he : ∀ a ∈ ds, ∀ c ∈ es a, t a c = true → TyE (blkX X scope) (Bi a c) elt (f a c) (Bi a c)) (hl : ∀ a ∈ ds, ∀ c ∈ es a, GaLe (wipeG (Bi a c) vs1) (wipeG (Bd a) vs1)) (hl2 : ∀ a ∈ ds, GaLe (wipeG (wipeG (Bd a) vs1) vs) (wipeG Gb vs))
    (hz : ∀ l : List Pd, l.length ≤ (ds.map fun a => (es a).length).sum → l.length < sizeLine) :
    TyN (tLc2 (uI X tg iter) (uG (blkX X scope) tg) tYes (uI (blkX X scope) tg1 iter1) (uG (blkX X scope) tg1) tt1 (uE (blkX X scope) elt) vs vs1) Ga (Ml (ds.flatMap fun a => ((es a).filter (t a)).map (f a))) Gb := by
  intro q F σ G H I Q k
  refine hi q F σ G H I _ fun J G1 H1 t1 I1 wt D hD => ?_
  obtain ⟨I1a, nq⟩ := I1.apart hD
  have gD : G1 D = none := Evl.fresh_back I1.sub hD
  have h0D : H D = none := by
    cases e : H D with
    | none => rfl
    | some u => rw [t1.f D u nq e] at hD; cases hD
  have gone : ∀ {G2 H2 G6 H6 : Hp} {acc : List V}, H2 D = some (.lst acc) → G2 D = none → Step q G2 H2 G6 H6 → H6 D = some (.lst acc) ∧ G6 D = none := fun {G2 H2 G6 H6 acc} hd gd s => by
    refine ⟨s.f D _ nq hd, ?_⟩
    cases e : G6 D with
    | none => rfl
    | some u =>
      rcases s.n D u e with ⟨u', e'⟩ | e'
      · rw [gd] at e'; cases e'
      · rw [hd] at e'; cases e'
  let ac : Nat → List Pd := fun i => (ds.take i).flatMap fun a => ((es a).filter (t a)).map (f a)
  refine ⟨fun i m H' => m = ds.length - i ∧ i ≤ ds.length ∧ ∃ G' acc, Step q G1 H1 G' H' ∧ SI q (fun a => F a ∧ a ≠ D) (wipeG Gb vs) (L2.wipe σ vs) G' H' ∧ H' D = some (.lst acc) ∧ G' D = none ∧ AllP (ac i) acc G', ⟨ds.length, ?_⟩, ?_⟩
  · exact ⟨by simp, Nat.zero_le _, G1, [], (Step.refl I1.sub).off hD gD nq, (I1a.off nq gD).wipe vs, upd_same, gD, trivial⟩
  rintro i m H2 ⟨rfl, hle, G2, acc, t2, I2, hd, gd, hacc⟩
  by_cases hlt : i < ds.length
  · have ga : ds[i]? = some ds[i] := List.getElem?_eq_getElem hlt
    have ma : ds[i] ∈ ds := List.getElem_mem hlt
    generalize ds[i] = a at ga ma
    have aci : ac (i + 1) = ac i ++ ((es a).filter (t a)).map (f a) := by
      show ((ds.take (i + 1)).flatMap _) = _
      rw [take_more ga, List.flatMap_append]
      simp [ac]
    refine .inr ⟨wt.go i G2 H2 t2.k I2.sub (by rw [List.length_map]; exact hlt), fun H' => i + 1 ≤ ds.length ∧ ∃ G' acc, Step q G1 H1 G' H' ∧ SI q (fun a => F a ∧ a ≠ D) (wipeG Gb vs) (L2.wipe σ vs) G' H' ∧ H' D = some (.lst acc) ∧ G' D = none ∧ AllP (ac (i + 1)) acc G',
      fun H' ⟨h1, h2⟩ => ⟨ds.length - (i + 1), by omega, rfl, h1, h2⟩, fun x H3 y => ?_⟩
    obtain ⟨G3, t3, p3⟩ := wt.yld i (it a) G2 H2 x H3 t2.k I2.sub (by rw [List.getElem?_map, ga]; rfl) y
    refine hg a ma q _ _ G3 H3 x (I2.pure t3) p3 _ fun σ4 G4 H4 t4 o4 I4 => ⟨(o4.wipe hks).trans (wipe_wipe σ vs), ?_⟩
    have ew : L2.wipe σ4 vs = L2.wipe σ vs := (o4.wipe hks).trans (wipe_wipe σ vs)
    refine hi1 a ma q _ σ4 G4 H4 I4 _ fun J1 G5 H5 t5 I5 wt1 => ?_
    obtain ⟨hd5, gd5⟩ := gone hd gd ((t3.any.trans t4).trans t5)
    have t15 := t2.trans ((t3.any.trans t4).trans t5)
    refine ⟨fun j m H' => m = (es a).length - j ∧ j ≤ (es a).length ∧ ∃ G' acc, Ex G5 G' ∧ Step q G1 H1 G' H' ∧ SI q (fun a => F a ∧ a ≠ D) (wipeG (Bd a) vs1) (L2.wipe σ4 vs1) G' H' ∧ H' D = some (.lst acc) ∧ G' D = none ∧ AllP (ac i ++ (((es a).take j).filter (t a)).map (f a)) acc G', ⟨(es a).length, ?_⟩, ?_⟩
    · exact ⟨by simp, Nat.zero_le _, G5, acc, Ex.refl G5, t15, I5.wipe vs1, hd5, gd5, by simpa using hacc.mono ((t3.any.trans t4).trans t5).k⟩
    rintro j m' H6 ⟨rfl, hle1, G6, acc6, e6, t6, I6, hd6, gd6, hacc6⟩
    by_cases hlt1 : j < (es a).length
    · have gc : (es a)[j]? = some (es a)[j] := List.getElem?_eq_getElem hlt1
      have mc : (es a)[j] ∈ es a := List.getElem_mem hlt1
      generalize (es a)[j] = c at gc mc
      refine .inr ⟨wt1.go j G6 H6 e6 I6.sub (by rw [List.length_map]; exact hlt1), fun H' => j + 1 ≤ (es a).length ∧ ∃ G' acc, Ex G5 G' ∧ Step q G1 H1 G' H' ∧ SI q (fun a => F a ∧ a ≠ D) (wipeG (Bd a) vs1) (L2.wipe σ4 vs1) G' H' ∧ H' D = some (.lst acc) ∧ G' D = none ∧ AllP (ac i ++ (((es a).take (j + 1)).filter (t a)).map (f a)) acc G',
        fun H' ⟨h1, h2⟩ => ⟨(es a).length - (j + 1), by omega, rfl, h1, h2⟩, fun x1 H7 y1 => ?_⟩
      obtain ⟨G7, t7, p7⟩ := wt1.yld j (it1 a c) G6 H6 x1 H7 e6 I6.sub (by rw [List.getElem?_map, gc]; rfl) y1
      refine hg1 a ma c mc q _ _ G7 H7 x1 (I6.pure t7) p7 _ fun σ8 G8 H8 t8 o8 I8 => ⟨(o8.wipe hks1).trans (wipe_wipe σ4 vs1), ?_⟩
      have ew8 : L2.wipe σ8 vs1 = L2.wipe σ4 vs1 := (o8.wipe hks1).trans (wipe_wipe σ4 vs1)
      refine ht a ma c mc q _ σ8 G8 H8 I8 _ fun G9 H9 t9 I9 => ?_
      have t69 : Step q G6 H6 G9 H9 := (t7.any.trans t8).trans t9
      have acj : (((es a).take (j + 1)).filter (t a)).map (f a) = (((es a).take j).filter (t a)).map (f a) ++ (if t a c = true then [f a c] else []) := by
        rw [take_more gc, List.filter_append, List.map_append]
        cases h : t a c with
        | true => rw [List.filter_cons_of_pos h]; rfl
        | false => rw [List.filter_cons_of_neg (by rw [h]; exact Bool.false_ne_true)]; rfl
      cases htk : t a c with
      | true =>
        rw [if_pos rfl]
        refine he a ma c mc htk q _ σ8 G9 H9 I9 _ fun v G10 H10 t10 I10 p10 => ?_
        have t610 := t69.trans t10
        obtain ⟨hd10, gd10⟩ := gone hd6 gd6 t610
        refine ⟨acc6, hd10, ?_, hlt1, G10, acc6 ++ [v], Ex.trans e6 t610.k, (t6.trans t610).off hD gd10 nq, ?_, upd_same, gd10, ?_⟩
        · rw [hacc6.length]
          refine hz _ ?_
          rw [List.length_append]
          have h1 : (ac i).length ≤ ((ds.take i).map fun a => (es a).length).sum := by
            show ((ds.take i).flatMap _).length ≤ _
            rw [List.length_flatMap]
            generalize ds.take i = l
            induction l with
            | nil => exact Nat.le_refl _
            | cons b l ih =>
              simp only [List.map_cons, List.sum_cons, List.length_map]
              have := List.length_filter_le (t b) (es b)
              simp only [List.length_map] at ih
              omega
          have h2 : ((((es a).take j).filter (t a)).map (f a)).length ≤ (es a).length := by
            rw [List.length_map]
            have := List.length_filter_le (t a) ((es a).take j)
            rw [List.length_take] at this
            omega
          have h3 : ((ds.take i).map fun a => (es a).length).sum + (es a).length ≤ (ds.map fun a => (es a).length).sum := by
            have e1 : ds = ds.take i ++ a :: ds.drop (i + 1) := by
              have := List.getElem?_eq_some_iff.mp ga
              obtain ⟨hl, rfl⟩ := this
              rw [← List.drop_eq_getElem_cons, List.take_append_drop]
            have e2 : (ds.map fun a => (es a).length).sum = ((ds.take i ++ a :: ds.drop (i + 1)).map fun a => (es a).length).sum := by rw [← e1]
            rw [e2, List.map_append, List.sum_append, List.map_cons, List.sum_cons]
            omega
          omega
        · have I11 := (I10.wipe vs1).weak (hl a ma c mc)
          rw [ew8] at I11
          exact I11.off nq gd10
        · rw [acj, htk, if_pos rfl, ← List.append_assoc]
          exact (hacc6.mono t610.k).append ⟨p10, trivial⟩
      | false =>
        rw [if_neg Bool.false_ne_true]
        obtain ⟨hd9, gd9⟩ := gone hd6 gd6 t69
        refine ⟨hlt1, G9, acc6, Ex.trans e6 t69.k, t6.trans t69, ?_, hd9, gd9, ?_⟩
        · have I11 := (I9.wipe vs1).weak (hl a ma c mc)
          rw [ew8] at I11
          exact I11
        · rw [acj, htk, if_neg Bool.false_ne_true, List.append_nil]
          exact hacc6.mono t69.k
    · have e : j = (es a).length := by omega
      subst e
      refine .inl ⟨by have := wt1.stop G6 H6 e6 I6.sub; rwa [List.length_map] at this, hlt, G6, acc6, t6, ?_, hd6, gd6, ?_⟩
      · have I7 := (I6.wipe vs).weak (hl2 a ma)
        have e7 : L2.wipe (L2.wipe σ4 vs1) vs = L2.wipe σ vs := by
          rw [← ew]
          exact wipe_eq (wipe_length σ4 vs1) fun j hj => wipe_out fun m => hj (hv j m)
        rw [e7] at I7
        exact I7
      · rw [aci]
        rw [List.take_length] at hacc6
        exact hacc6
  · have e : i = ds.length := by omega
    subst e
    have hst := wt.stop G2 H2 t2.k I2.sub
    rw [List.length_map] at hst
    refine .inl ⟨hst, k D _ G2 H2 (t1.trans t2) (I1a.back t2 I2 (OwnUpd.refl hO)) nq h0D gd hd ⟨acc, rfl, ?_⟩⟩
    have : ac ds.length = ds.flatMap fun a => ((es a).filter (t a)).map (f a) := by
      show (ds.take ds.length).flatMap _ = _
      rw [List.take_length]
    rw [this] at hacc
    exact hacc
theorem mk_lc2 {c : Expr} {pos : Pos} {own : List (Str × Nat)} (calm : ∀ i, (X i).calm = true) (hN : ∀ i, (X i).N.Nodup) (ok : ∀ i, BlkOk (X i).N (X i).env.scope scope own) (hv : ∀ i ∈ vs1, i ∈ own.map (·.2)) (hs : ∀ i x, foldedSetIterable iter (X i).env x = pure x := by intro _ _; rfl) (hs1 : ∀ env x, foldedSetIterable iter1 env x = pure x := by intro _ _; rfl) (i : ι) :
    PE (X i) (.ListComp elt [⟨tg, iter, [], 0⟩, ⟨tg1, iter1, [c], 0⟩] scope pos) (tLc2 (uI X tg iter) (uG (blkX X scope) tg) tYes (uI (blkX X scope) tg1 iter1) (uG (blkX X scope) tg1) (uT (blkX X scope) c) (uE (blkX X scope) elt) (own.map (·.2)) vs1) :=
  pe_lc2 (calm i) (hN i) (uI_pi i) (ok i) hv (fun s H C cl fp => uG_pg (X := blkX X scope) (i, s, H, C, cl, fp)) (fun _ _ _ _ _ => pts_nil) (fun s H C cl fp => uI_pi (X := blkX X scope) (i, s, H, C, cl, fp)) (fun s H C cl fp => uG_pg (X := blkX X scope) (i, s, H, C, cl, fp)) (fun s H C cl fp => pts_one (uT_pt (X := blkX X scope) (i, s, H, C, cl, fp))) (fun s H C cl fp => uE_pe (X := blkX X scope) (i, s, H, C, cl, fp)) (hs i) hs1
theorem TyT.tt {X : ι → Cx} {c : Expr} {b : Bool} (h : TyT X Ga c b Gb) : TyTT (uT X c) Ga b Gb := fun q F σ G H I Q kk => h q F σ G H I Q kk
end
end Ty
end
section
/-! enumerate of a tuple. -/
namespace Ow
open PySem PySem.Spec PyProof.Rows L2
open AutoSeq1 (wpAny_loadPart')

theorem meets_enum_newT (l : Addr) (items : Array Value) (n : Nat) (dct : Option Addr) (sl : Array (Option Value)) :
    Meets (Builtin.«enumerate.__new__» ⟨[.type "enumerate", .ref l], []⟩) (fun _ R s => s.heap.get? l = some { cls := .type "tuple", dict := dct, data := .seq items n, slots := sl } ∧
      R (.ok (.ret (.ref (s.heap.push { cls := .type "tuple_iterator", data := .fields #[.ref l, .int 0 0] }).objs.size)))
        { s with heap := (s.heap.push { cls := .type "tuple_iterator", data := .fields #[.ref l, .int 0 0] }).push { cls := .type "enumerate", data := .fields #[.none, .bool false, .ref s.heap.objs.size, rawInt 0, .none, .none] } }) :=
  .of_wp fun prog w A R s h => by
    obtain ⟨hp, g, d, tk, os⟩ := s; obtain ⟨hl, h⟩ := h
    have hsub := sub_enumerate
    have hL : Heap.IsTuple (Shared.heap ⟨hp, g, d, tk, os⟩) l items := ⟨_, hl, rfl, n, rfl⟩
    wp_walk using wpAny_loadPart' hl
    refine wpAny_stack_any fun st => wpAny_pure ?_
    split
    · rename_i c _ _ _ _ _
      cases (c == Value.type "enumerate")
      · wp_walk using wpAny_loadPart' hl, wpAny_pyIter_tuple hL
        exact ⟨_, rfl, h⟩
      · wp_walk using wpAny_loadPart' hl, wpAny_pyIter_tuple hL
        exact ⟨_, rfl, h⟩
    · wp_walk using wpAny_loadPart' hl, wpAny_pyIter_tuple hL
      exact ⟨_, rfl, h⟩
section
variable {prog : Program} {w : World} {A : Around} {E : Value → Shared → Prop} {s : Shared}
theorem call_enum_tup {l : Addr} {items : Array Value} {Q : Value → Shared → Prop} (hL : s.heap.IsTuple l items)
    (h : ∀ h', IsEnum h' (s.heap.objs.size + 1) s.heap.objs.size 0 .none → h'.IsTupleIter s.heap.objs.size l 0 → h'.objs.size = s.heap.objs.size + 2 →
      (∀ b o, s.heap.get? b = some o → h'.get? b = some o) → Q (.ref (s.heap.objs.size + 1)) { s with heap := h' }) :
    wpAny (model prog w) A (call (.type "enumerate") [.ref l]) Q E s := by
  obtain ⟨⟨c, dct, dt, sl⟩, hl, hc, n, hd⟩ := hL
  replace hc : c = .type "tuple" := hc
  replace hd : dt = .seq items n := hd
  subst hc hd
  refine callType_new F.called_enumerate (by decide) (F.typeCall_enumerate_1 _) (F.newCall_enumerate_1 _) (fun obj => F.args_object_init_2 obj _) F.entry_enumerate_new
    (meets_enum_newT l items n dct sl) ⟨hl, ?_⟩
  have hz : (s.heap.push { cls := .type "tuple_iterator", data := .fields #[.ref l, .int 0 0] }).objs.size = s.heap.objs.size + 1 := Heap.size_push ..
  show _ ∧ _
  rw [hz]
  have he : IsEnum ((s.heap.push { cls := .type "tuple_iterator", data := .fields #[.ref l, .int 0 0] }).push
      { cls := .type "enumerate", data := .fields #[.none, .bool false, .ref s.heap.objs.size, rawInt 0, .none, .none] }) (s.heap.objs.size + 1) s.heap.objs.size 0 .none := by
    have := Heap.get?_push_size (s.heap.push { cls := .type "tuple_iterator", data := .fields #[.ref l, .int 0 0] })
      (o := { cls := .type "enumerate", data := .fields #[.none, .bool false, .ref s.heap.objs.size, rawInt 0, .none, .none] }) rfl
    rw [hz] at this; exact this
  refine ⟨⟨_, he, rfl⟩, h _ he ⟨_, Heap.get?_push_of_some _ (Heap.get?_push_size _ rfl), rfl, rfl⟩ (by rw [Heap.size_push, hz]) fun b o x => Heap.get?_push_of_some _ (Heap.get?_push_of_some _ x)⟩
end
/-- the tuple at a, each item in a new pair -/
def ItePT (K : PySem.W.Frag) (a : Addr) : It :=
  ⟨fun i H => ∃ (xs : List V) (x : V), SqT K H a xs ∧ xs[i]? = some x, fun i H v H' => ∃ T x, v = .ref T ∧ H T = none ∧ H' = upd H T (.tup [.int (i : Nat), x]) ∧ ∀ xs, SqT K H a xs → xs[i]? = some x, fun i H => ∃ xs : List V, SqT K H a xs ∧ xs.length = i⟩
theorem turn_enumT {P : Program} {w : World} {K : PySem.W.Frag} {elts : List Expr} {kk : Nat} {tpos : Pos} (a e it : Addr) (hai : a ≠ it) (hae : a ≠ e) :
    Turn P w K (.Tuple elts kk tpos) (ItePT K a) [e, it] e (fun i h => (∃ old, IsEnum h e it ((i : Nat) : Int) old) ∧ h.IsTupleIter it a i ∧ e ≠ it) where
  mem := by simp
  obj := fun i h st b hb => by
    obtain ⟨⟨old, he⟩, ⟨o, ho, hc, hd⟩, _⟩ := st
    have e' : b = e ∨ b = it := by simpa using hb
    rcases e' with z | z
    · rw [z]; exact ⟨_, he, fun v q => nomatch q⟩
    · rw [z]; exact ⟨o, ho, fun v q => by rw [hd] at q; cases q⟩
  keep := fun i h h' st k => let ⟨⟨old, he⟩, hi, hne⟩ := st; ⟨⟨old, k e (by simp) _ he⟩, hi.at fun o q => k it (by simp) o q, hne⟩
  item := by
    intro X hP hw hK hc i pins s σ H E I hf st hg
    subst hP hw hK
    obtain ⟨⟨old, he⟩, hit, hne⟩ := st
    obtain ⟨xs, x, hq, hx⟩ := hg
    obtain ⟨its, rv, p, hz⟩ := I.tuple hq
    have p : s.heap.IsTuple a its.toArray := p
    obtain ⟨u, hu, ru⟩ := rv.get hx
    have hel : e < s.heap.objs.size := Heap.lt_size he
    have hil : it < s.heap.objs.size := by obtain ⟨_, q, _⟩ := hit; exact Heap.lt_size q
    have hlt : i < its.toArray.size := by
      have := (List.getElem?_eq_some_iff.mp hu).1
      simpa using this
    refine wpAny_pyNext_enum_itemD (Draws.tuple (A := X.A.in1) (I.ok.hd hc) it a hai its.toArray) he ⟨hit, p⟩ hlt hne (by simp [hne, Ne.symm hae]) fun y h' tk hy ho hit' hT hsz hk => ?_
    have ey : y = u := by
      have : its.toArray[i]? = some y := hy
      rw [List.getElem?_toArray, hu] at this
      exact (Option.some.inj this).symm
    subst ey
    refine ⟨_, rfl, wpAny_letOwnedTupleGo_enum (s := { s with heap := h', toks := tk + 1 }) ho fun h'' he' sb => ?_⟩
    have hT2 : h''.get? s.heap.objs.size = some { cls := .type "tuple", data := .seq #[.int i tk, y] } := (sb.2 _ (Nat.ne_of_gt hel)).trans hT
    have new : ObjOk X.prog X.w (upd H s.heap.objs.size (.tup [.int (i : Nat), x])) h'' s.heap.objs.size (.tup [.int (i : Nat), x]) :=
      ⟨by show 2 ≤ sizeLine; decide, [.int i tk, y], .cons ⟨_, rfl⟩ (.cons ru .nil), ⟨_, hT2, rfl, _, rfl⟩⟩
    have I1 : Inv X pins σ (upd H s.heap.objs.size (.tup [.int (i : Nat), x])) { s with heap := h'', toks := tk + 1 } :=
      I.turnedNew (ch := [e, it]) (fun b ob hb q => (sb.2 b (fun z => hb (by simp [z]))).trans (hk b ob (fun z => hb (by simp [z])) (fun z => hb (by simp [z])) q)) hf (Nat.le_refl _) new
    refine ⟨.ref s.heap.objs.size, _, I1, rfl, ⟨_, x, rfl, I.hok.fresh (Nat.le_refl _), rfl, fun ys hy => by rw [I.tuple_inj hy hq]; exact hx⟩, ⟨⟨y, ?_⟩, hit'.1.at fun o q => (sb.2 it (Ne.symm hne)).trans q, hne⟩, fun b hb => ?_⟩
    · have e1 : ((i + 1 : Nat) : Int) = (i : Int) + 1 := by omega
      rw [e1]; exact he'
    · have hb' : b < s.heap.objs.size := by
        have e' : b = e ∨ b = it := by simpa using hb
        rcases e' with z | z
        · rw [z]; exact hel
        · rw [z]; exact hil
      rw [upd_ne (Nat.ne_of_lt hb')]
      exact (hf b hb).1
  done := by
    intro X hP hw hK hc i pins s σ H E I hf st hg
    subst hP hw hK
    obtain ⟨⟨old, he⟩, hit, hne⟩ := st
    obtain ⟨xs, hq, hx⟩ := hg
    obtain ⟨its, rv, p, hz⟩ := I.tuple hq
    have p : s.heap.IsTuple a its.toArray := p
    obtain ⟨f0, f1, f2, f3, f4, f5⟩ := hf it (by simp)
    have hl := rv.length
    have hi : i = its.toArray.size := by simp; omega
    subst hi
    exact wpAny_pyNext_enum_endD (Draws.tuple (A := X.A.in1) (I.ok.hd hc) it a hai its.toArray) he ⟨hit, p⟩ fun h' eb => ⟨rfl, I.turned (t' := s.toks) (fun b o hb q => eb b o hb q) f0 f1 f3 f4 f5⟩
  self := fun A i s Q E st h => let ⟨⟨_, he⟩, _⟩ := st; wpAny_pyIter_enum he h
def iEnumT (K : PySem.W.Frag) (ta : TA) : TI := fun σ H R => ta σ H fun vs H1 => ∃ a xs, vs = [.ref a] ∧ SqT K H1 a xs ∧ R (ItePT K a) H1
theorem pi_enumT {X : Cx} {e : Expr} {ta : TA} {p pos tpos : Pos} {elts : List Expr} {kk : Nat} (hg : Gl X "enumerate") (hm : X.mg "enumerate" = none) (ha : PA X [e] ta) (hs : starEach [e] X.env = [(false, eval e X.env)] := by rfl) :
    PI X (.Tuple elts kk tpos) (.Call (.Name "enumerate" p) [e] [] pos) (iEnumT X.K ta) := by
  refine ⟨fun pins s σ H R I h => ?_⟩
  refine Call_ (ld_blt I hg hm boot_enumerate (PyProof.Rows.callWith_type1 (thn (ha.run pos pins s σ H _ I h) fun us s1 ⟨vs, H1, I1, r1, q1⟩ => ?_) hs rfl))
  obtain ⟨a, xs, ex, hq, q⟩ := q1
  subst ex
  cases r1 with
  | cons r rr =>
    cases rr
    cases r
    obtain ⟨its, rv, p', hz⟩ := I1.tuple hq
    have p' : s1.heap.IsTuple a its.toArray := p'
    have la : a < s1.heap.objs.size := by obtain ⟨_, q, _⟩ := p'; exact Heap.lt_size q
    refine call_enum_tup p' fun h' he hit hsz hk => wpAny_pyIter_enum he ?_
    have I2 : Inv X pins σ H1 { s1 with heap := h' } := I1.kept (t' := s1.toks) hk
    refine ⟨s1.heap.objs.size + 1, [s1.heap.objs.size + 1, s1.heap.objs.size], _, _, H1, rfl, I2, turn_enumT a (s1.heap.objs.size + 1) s1.heap.objs.size (Nat.ne_of_lt la) (Nat.ne_of_lt (Nat.lt_succ_of_lt la)), ⟨⟨.none, he⟩, hit, Nat.succ_ne_self _⟩, fun b hb => ?_, q⟩
    have e' : b = s1.heap.objs.size + 1 ∨ b = s1.heap.objs.size := by simpa using hb
    have hle : s1.heap.objs.size ≤ b := by
      rcases e' with z | z
      · rw [z]; exact Nat.le_add_right _ _
      · rw [z]; exact Nat.le_refl _
    exact I1.fpOk hle (I1.hok.fresh hle)
end Ow
end
section
/-! Slices, x in xs, enumerate. -/
namespace Ty
open PySem PySem.Spec PyProof.Rows L2
open Evl (Ex)
def cutL {α : Type} (xs : List α) (lo hi : Option Int) : List α := (xs.drop (HT.sIx xs.length 0 lo)).take (HT.sIx xs.length xs.length hi - HT.sIx xs.length 0 lo)
theorem cutL_map {α β : Type} (f : α → β) (xs : List α) (lo hi : Option Int) : cutL (xs.map f) lo hi = (cutL xs lo hi).map f := by
  unfold cutL
  rw [List.length_map, List.map_take, List.map_drop]
theorem cut_to {α : Type} (xs : List α) (k : Nat) : cutL xs none (some (k : Int)) = xs.take k := by
  unfold cutL
  rw [HT.sIx_none, HT.sIx_nat, List.drop_zero, Nat.sub_zero]
  by_cases h : k ≤ xs.length
  · rw [Nat.min_eq_left h]
  · rw [Nat.min_eq_right (by omega), List.take_length, List.take_of_length_le (by omega)]
theorem cut_from {α : Type} (xs : List α) (k : Nat) : cutL xs (some (k : Int)) none = xs.drop k := by
  unfold cutL
  rw [HT.sIx_none, HT.sIx_nat]
  by_cases h : k ≤ xs.length
  · rw [Nat.min_eq_left h, List.take_of_length_le (by rw [List.length_drop]; omega)]
  · rw [Nat.min_eq_right (by omega), List.drop_length, List.take_nil, List.drop_of_length_le (by omega)]
theorem cut_both {α : Type} (xs : List α) (a b : Nat) (h : b ≤ xs.length) : cutL xs (some (a : Int)) (some (b : Int)) = (xs.drop a).take (b - a) := by
  unfold cutL
  rw [HT.sIx_nat, HT.sIx_nat, Nat.min_eq_left h]
  by_cases h2 : a ≤ xs.length
  · rw [Nat.min_eq_left h2]
  · rw [Nat.min_eq_right (by omega), List.drop_length, List.drop_of_length_le (by omega), List.take_nil, List.take_nil]
theorem cut_but {α : Type} (xs : List α) : cutL xs none (some (-1)) = xs.dropLast := by
  unfold cutL
  have e : HT.sIx xs.length xs.length (some (-1)) = xs.length - 1 := by
    show (if (-1 : Int) < 0 then ((-1 : Int) + (xs.length : Int)).toNat else min (-1 : Int).toNat xs.length) = _
    rw [if_pos (by decide)]
    omega
  rw [e, HT.sIx_none, List.drop_zero, Nat.sub_zero, List.dropLast_eq_take]
theorem AllP.cut {Ps : List Pd} {vs : List V} {G : Hp} (h : AllP Ps vs G) (lo hi : Option Int) : AllP (cutL Ps lo hi) (cutV vs lo hi) G := by
  unfold cutL cutV
  rw [h.length]
  exact (h.drop _).take _
section
variable {ι : Type} {X : ι → Cx} {Ga Gb Gc Gd : List Sl} {e a c : Expr} {lo hi : Option Expr} {l h : Option Int} {Ps : List Pd} {P : Pd} {pos p p2 tpos : Pos} {K : PySem.W.Frag} {i : Int}
def uO (X : ι → Cx) (o : Option Expr) : TO := fun σ H Q => ∃ t : TO, (∀ i, PO (X i) o t) ∧ t σ H Q
theorem uO_po (i : ι) {o : Option Expr} : PO (X i) o (uO X o) := ⟨fun pins s σ H Q I ⟨_, h1, h2⟩ => (h1 i).run pins s σ H Q I h2⟩
def TyO (X : ι → Cx) (Ga : List Sl) (o : Option Expr) (v : Option Int) (Gb : List Sl) : Prop :=
  ∀ (q : Option Addr) (F : Addr → Prop) (σ : L2.St) (G H : Hp), SI q F Ga σ G H → ∀ Q : Option Int → Hp → Prop, (∀ G' H', Step q G H G' H' → SI q F Gb σ G' H' → Q v H') → uO X o σ H Q
theorem o_non : TyO X Ga none none Ga := fun q F σ G H I Q k => ⟨tNoPart, fun _ => po_none, k G H (Step.refl I.sub) I⟩
theorem o_som (he : TyE X Ga e (IsI i) Gb) : TyO X Ga (some e) (some i) Gb := fun q F σ G H I Q k => ⟨tPart (uE X e), fun _ => po_some (uE_pe _), he q F σ G H I _ fun v G1 H1 t1 I1 p1 => ⟨i, p1, k G1 H1 t1 I1⟩⟩
theorem e_slL (hK : ∀ l, (X l).K = K) (he : TyE X Ga e (Ls Ps) Gb) (hl : TyO X Gb lo l Gc) (hh : TyO X Gc hi h Gd) : TyE X Ga (.Subscript e (.Slice lo hi none p2) pos) (Ls (cutL Ps l h)) Gd := fun q F σ G H I Q k => by
  refine ⟨tSl (rSlL K) (uE X e) (uO X lo) (uO X hi), fun i => by rw [← hK i]; exact pe_slice sl_list (uE_pe i) (uO_po i) (uO_po i), he q F σ G H I _ fun v G1 H1 t1 I1 p1 => hl q F σ G1 H1 I1 _ fun G2 H2 t2 I2 => hh q F σ G2 H2 I2 _ fun G3 H3 t3 I3 => ?_⟩
  obtain ⟨a, xs, rfl, hx, hp⟩ := (Ls Ps).mono (Ex.trans t2.k t3.k) p1
  refine ⟨a, xs, rfl, SqL.of (I3.sub _ _ hx), fun p hn => ?_⟩
  have t : Step none G3 H3 (upd G3 p (.lst (cutV xs l h))) (upd H3 p (.lst (cutV xs l h))) := Step.new I3.sub hn
  exact k _ _ _ (((t1.trans t2).trans t3).trans t.any) (I3.pure t) ⟨p, _, rfl, upd_same, (hp.cut l h).mono t.k⟩
theorem e_slT (hK : ∀ l, (X l).K = K) (he : TyE X Ga e (Tp Ps) Gb) (hl : TyO X Gb lo l Gc) (hh : TyO X Gc hi h Gd) : TyE X Ga (.Subscript e (.Slice lo hi none p2) pos) (Tp (cutL Ps l h)) Gd := fun q F σ G H I Q k => by
  refine ⟨tSl (rSlA K) (uE X e) (uO X lo) (uO X hi), fun i => by rw [← hK i]; exact pe_slice sl_tupA (uE_pe i) (uO_po i) (uO_po i), he q F σ G H I _ fun v G1 H1 t1 I1 p1 => hl q F σ G1 H1 I1 _ fun G2 H2 t2 I2 => hh q F σ G2 H2 I2 _ fun G3 H3 t3 I3 => ?_⟩
  obtain ⟨a, xs, rfl, hx, hp⟩ := (Tp Ps).mono (Ex.trans t2.k t3.k) p1
  refine ⟨a, xs, rfl, SqT.of (I3.sub _ _ hx), fun hw => ?_, fun hw p hn => ?_⟩
  · have e1 : cutL Ps l h = Ps := by
      unfold cutL
      rw [← hp.length, hw.1, hw.2, List.drop_zero, Nat.sub_zero, hp.length, List.take_length]
    rw [e1] at k
    exact k _ G3 H3 ((t1.trans t2).trans t3) I3 ⟨a, xs, rfl, hx, hp⟩
  · have t : Step none G3 H3 (upd G3 p (.tup (cutV xs l h))) (upd H3 p (.tup (cutV xs l h))) := Step.new I3.sub hn
    exact k _ _ _ (((t1.trans t2).trans t3).trans t.any) (I3.pure t) ⟨p, _, rfl, upd_same, (hp.cut l h).mono t.k⟩
theorem e_slS {z : Str} (hz : z.length ≤ sizeLine) (he : TyE X Ga e (Is (.str z)) Gb) (hl : TyO X Gb lo l Gc) (hh : TyO X Gc hi h Gd) : TyE X Ga (.Subscript e (.Slice lo hi none p2) pos) (Is (.str (cutS z l h))) Gd := fun q F σ G H I Q k => by
  refine ⟨tSl rSlS (uE X e) (uO X lo) (uO X hi), fun i => pe_slice sl_str (uE_pe i) (uO_po i) (uO_po i), he q F σ G H I _ fun v G1 H1 t1 I1 p1 => hl q F σ G1 H1 I1 _ fun G2 H2 t2 I2 => hh q F σ G2 H2 I2 _ fun G3 H3 t3 I3 => ?_⟩
  exact ⟨z, p1, hz, k _ G3 H3 ((t1.trans t2).trans t3) I3 rfl⟩
/-! ### x in xs -/
theorem in_ints {i : Int} : ∀ {ns : List Int}, inV (.int i) (ns.map V.int) = decide (i ∈ ns)
  | [] => rfl
  | n :: ns => by
    have ih := in_ints (i := i) (ns := ns)
    unfold inV at ih ⊢
    rw [List.map_cons, List.any_cons, ih]
    show ((n == i) || _) = _
    by_cases h : n = i
    · subst h; simp
    · have h1 : (n == i) = false := by simpa using h
      rw [h1, Bool.false_or]
      have : i ∈ n :: ns ↔ i ∈ ns := by
        constructor
        · intro hm
          rcases List.mem_cons.mp hm with z | z
          · exact absurd z.symm h
          · exact z
        · exact List.mem_cons_of_mem _
      simp only [this]
theorem flat_ints : ∀ {ns : List Int}, (ns.map V.int).all flatV = true
  | [] => rfl
  | _ :: ns => flat_ints (ns := ns)
theorem o_in {ns : List Int} {neg : Bool} : OpT (rIn K neg) (IsI i) (Sq (ns.map IsI)) (IsB (if neg then !decide (i ∈ ns) else decide (i ∈ ns))) := fun x y G H Q e p1 p2 k => by
  cases p1
  obtain ⟨a, xs, rfl, hx, hp⟩ := p2
  have := hp.ints
  subst this
  refine ⟨a, _, rfl, hx.elim (fun z => .inl (SqL.of (e _ _ z))) (fun z => .inr (SqT.of (e _ _ z))), rfl, flat_ints, ?_⟩
  rw [in_ints]
  exact k _ G H (Step.refl e) rfl
theorem t_in {ns : List Int} (hK : ∀ l, (X l).K = K) (ha : TyE X Ga a (IsI i) Gb) (hc : TyE X Gb c (Sq (ns.map IsI)) Gc) (hm : behindInMarks .In c = false := by first | exact nomark _ | rfl) : TyT X Ga (.Compare a [.In] [c] pos) (decide (i ∈ ns)) Gc := t_cmp (r := rIn K false) (fun l => by rw [← hK l]; exact op_in_seq) ha hc (o_in (neg := false)) hm
theorem t_notIn {ns : List Int} (hK : ∀ l, (X l).K = K) (ha : TyE X Ga a (IsI i) Gb) (hc : TyE X Gb c (Sq (ns.map IsI)) Gc) (hm : behindInMarks .NotIn c = false := by first | exact nomark _ | rfl) : TyT X Ga (.Compare a [.NotIn] [c] pos) (!decide (i ∈ ns)) Gc := t_cmp (r := rIn K true) (fun l => by rw [← hK l]; exact op_notIn_seq) ha hc (o_in (neg := true)) hm
/-! ### enumerate -/
def enP {α : Type} (it : α → Pd) (ds : List α) : List Pd := ds.zipIdx.map fun z => Tp [IsI (z.2 : Nat), it z.1]
theorem enP_at {α : Type} {it : α → Pd} {ds : List α} {i : Nat} {P : Pd} (h : (enP it ds)[i]? = some P) : ∃ d, ds[i]? = some d ∧ P = Tp [IsI (i : Nat), it d] := by
  unfold enP at h
  rw [List.getElem?_map, List.getElem?_zipIdx] at h
  cases e : ds[i]? with
  | none => rw [e] at h; cases h
  | some d => rw [e] at h; cases h; exact ⟨d, rfl, by simp⟩
theorem enP_len {α : Type} {it : α → Pd} {ds : List α} : (enP it ds).length = ds.length := by
  unfold enP
  rw [List.length_map, List.length_zipIdx]
theorem walk_enL {α : Type} {it : α → Pd} {ds : List α} {a : Addr} {xs : List V} {G0 : Hp} (h : G0 a = some (.lst xs)) (hp : AllP (ds.map it) xs G0) : WalkT (Ite K a) (enP it ds) G0 := by
  have hl : xs.length = ds.length := by rw [hp.length, List.length_map]
  refine ⟨fun i G H e1 e2 hi => ?_, fun G H e1 e2 => ⟨xs, SqL.of (e2 _ _ (e1 _ _ h)), by rw [enP_len, hl]; exact Nat.le_refl _⟩, fun i P G H x H' e1 e2 hP y => ?_⟩
  · have hi' : i < xs.length := by rw [hl]; rw [enP_len] at hi; exact hi
    exact ⟨xs, xs[i], SqL.of (e2 _ _ (e1 _ _ h)), by simp [hi']⟩
  · obtain ⟨T, v, rfl, hn, rfl, hv⟩ := y
    obtain ⟨d, hd, rfl⟩ := enP_at hP
    have hx := hv xs (SqL.of (e2 _ _ (e1 _ _ h)))
    obtain ⟨w', hw, pw⟩ := hp.get (i := i) (P := it d) (by rw [List.getElem?_map, hd]; rfl)
    rw [hx] at hw; cases hw
    have t : Step none G H (upd G T (.tup [.int (i : Nat), v])) (upd H T (.tup [.int (i : Nat), v])) := Step.new e2 hn
    exact ⟨_, t, T, _, rfl, upd_same, rfl, (it d).mono (Ex.trans e1 t.k) pw, trivial⟩
theorem walk_enT {α : Type} {it : α → Pd} {ds : List α} {a : Addr} {xs : List V} {G0 : Hp} (h : G0 a = some (.tup xs)) (hp : AllP (ds.map it) xs G0) : WalkT (Ow.ItePT K a) (enP it ds) G0 := by
  have hl : xs.length = ds.length := by rw [hp.length, List.length_map]
  refine ⟨fun i G H e1 e2 hi => ?_, fun G H e1 e2 => ⟨xs, SqT.of (e2 _ _ (e1 _ _ h)), by rw [enP_len, hl]⟩, fun i P G H x H' e1 e2 hP y => ?_⟩
  · have hi' : i < xs.length := by rw [hl]; rw [enP_len] at hi; exact hi
    exact ⟨xs, xs[i], SqT.of (e2 _ _ (e1 _ _ h)), by simp [hi']⟩
  · obtain ⟨T, v, rfl, hn, rfl, hv⟩ := y
    obtain ⟨d, hd, rfl⟩ := enP_at hP
    have hx := hv xs (SqT.of (e2 _ _ (e1 _ _ h)))
    obtain ⟨w', hw, pw⟩ := hp.get (i := i) (P := it d) (by rw [List.getElem?_map, hd]; rfl)
    rw [hx] at hw; cases hw
    have t : Step none G H (upd G T (.tup [.int (i : Nat), v])) (upd H T (.tup [.int (i : Nat), v])) := Step.new e2 hn
    exact ⟨_, t, T, _, rfl, upd_same, rfl, (it d).mono (Ex.trans e1 t.k) pw, trivial⟩
theorem i_enL {α : Type} {it : α → Pd} {ds : List α} {elts : List Expr} {kk : Nat} (hK : ∀ i, (X i).K = K) (hm : ∀ i, (X i).mg "enumerate" = none) (h : TyE X Ga e (Ls (ds.map it)) Gb) (hg : ∀ i, Gl (X i) "enumerate" := by intro i; rfl) (hs : ∀ i, starEach [e] (X i).env = [(false, eval e (X i).env)] := by intro i; rfl) :
    TyI X Ga (.Tuple elts kk tpos) (.Call (.Name "enumerate" p) [e] [] pos) (ds.zipIdx.map fun z => Tp [IsI (z.2 : Nat), it z.1]) Gb := fun q F σ G H I R k => by
  refine ⟨iEnum K (uA X [e]), fun i => by rw [← hK i]; exact pi_enum (hg i) (hm i) (uA_pa i) (hs i), a_1 h hs q F σ G H I _ fun vs G1 H1 t1 I1 p1 => ?_⟩
  match vs, p1 with
  | [v], p1 =>
    obtain ⟨⟨a, xs, rfl, hx, hp⟩, _⟩ := p1
    exact ⟨a, xs, rfl, SqL.of (I1.sub _ _ hx), k _ G1 H1 t1 I1 (walk_enL hx hp)⟩
theorem i_enT {α : Type} {it : α → Pd} {ds : List α} {elts : List Expr} {kk : Nat} (hK : ∀ i, (X i).K = K) (hm : ∀ i, (X i).mg "enumerate" = none) (h : TyE X Ga e (Tp (ds.map it)) Gb) (hg : ∀ i, Gl (X i) "enumerate" := by intro i; rfl) (hs : ∀ i, starEach [e] (X i).env = [(false, eval e (X i).env)] := by intro i; rfl) :
    TyI X Ga (.Tuple elts kk tpos) (.Call (.Name "enumerate" p) [e] [] pos) (ds.zipIdx.map fun z => Tp [IsI (z.2 : Nat), it z.1]) Gb := fun q F σ G H I R k => by
  refine ⟨Ow.iEnumT K (uA X [e]), fun i => by rw [← hK i]; exact Ow.pi_enumT (hg i) (hm i) (uA_pa i) (hs i), a_1 h hs q F σ G H I _ fun vs G1 H1 t1 I1 p1 => ?_⟩
  match vs, p1 with
  | [v], p1 =>
    obtain ⟨⟨a, xs, rfl, hx, hp⟩, _⟩ := p1
    exact ⟨a, xs, rfl, SqT.of (I1.sub _ _ hx), k _ G1 H1 t1 I1 (walk_enT hx hp)⟩
/-- [elt for x, y in iter]: nothing is changed -/
theorem e_lcP {α : Type} {ds : List α} {elt iter : Expr} {scope : Scope} {x y : Str} {px py : Pos} {kk : Nat} {P1 P2 f : α → Pd} (k l : Nat) (hkl : k ≠ l) (hK : ∀ i, (X i).K = K) (nd : ∀ i, (X i).N.Nodup) (calm : ∀ i, (X i).calm = true) (hi : TyI X Ga (.Tuple [.Name x px, .Name y py] kk tpos) iter (ds.map fun d => Tp [P1 d, P2 d]) Gb)
    (he : ∀ d ∈ ds, TyE (blkX X scope) (((wipeG Gb [k, l]).set k (.is (P1 d))).set l (.is (P2 d))) elt (f d) (((wipeG Gb [k, l]).set k (.is (P1 d))).set l (.is (P2 d)))) (hz : ds.length ≤ sizeLine) (hO : ∀ i M, Gb[i]? = some (Sl.own M) → i ≠ k ∧ i ≠ l)
    (hg : ∀ d, TyG (blkX X scope) (wipeG Gb [k, l]) (Tp [P1 d, P2 d]) (.Tuple [.Name x px, .Name y py] kk tpos) [k, l] (((wipeG Gb [k, l]).set k (.is (P1 d))).set l (.is (P2 d)))) (ok : ∀ i, BlkOk (X i).N (X i).env.scope scope [(x, k), (y, l)] := by intro i; exact blkOk_by rfl) (hs : ∀ i x, foldedSetIterable iter (X i).env x = pure x := by intro _ _; rfl) :
    TyE X Ga (.ListComp elt [⟨.Tuple [.Name x px, .Name y py] kk tpos, iter, [], 0⟩] scope pos) (Ls (ds.map f)) Gb := by
  have e1 : ∀ s t : Sl, wipeG (((wipeG Gb [k, l]).set k s).set l t) [k, l] = wipeG Gb [k, l] := fun s t => by
    show (((((Gb.set l .any).set k .any).set k s).set l t).set l .any).set k .any = (Gb.set l .any).set k .any
    rw [List.set_set, List.set_set, List.set_comm .any s (Ne.symm hkl), List.set_set, List.set_comm s .any hkl, List.set_set]
  exact e_r ((lc_map (vs := [k, l]) (ks := [k, l]) (it := fun d => Tp [P1 d, P2 d]) hi hz (fun i M h => by
    have := hO i M h
    simp [this.1, this.2]) (fun _ h => h) (fun d _ => hg d) he (fun d _ => by rw [e1]; exact GaLe.refl _) (fun d _ => by rw [e1]; exact GaLe.refl _)).known Ml.known) (fun i => mk_lc calm nd ok hs i)
end
end Ty
end
section
/-! Filtered comprehensions; [..] * n; minima. -/
namespace Ty
open PySem PySem.Spec PyProof.Rows L2
open Evl (Ex)
section
variable {ι : Type} {X : ι → Cx} {Ga Gb Gc : List Sl} {elt iter cnd a c : Expr} {scope : Scope} {pos px p : Pos} {x : Str} {Ps : List Pd} {k0 : Int}
/-- [elt for x in iter if c] -/
theorem e_lcF {α : Type} {ds : List α} {it f : α → Pd} {t : α → Bool} (k : Nat) (nd : ∀ i, (X i).N.Nodup) (calm : ∀ i, (X i).calm = true) (hi : TyI X Ga (.Name x px) iter (ds.map it) Gb) (ht : ∀ d ∈ ds, TyT (blkX X scope) ((wipeG Gb [k]).set k (.is (it d))) cnd (t d) ((wipeG Gb [k]).set k (.is (it d))))
    (he : ∀ d ∈ ds, t d = true → TyE (blkX X scope) ((wipeG Gb [k]).set k (.is (it d))) elt (f d) ((wipeG Gb [k]).set k (.is (it d)))) (hz : ds.length ≤ sizeLine) (hO : ∀ i M, Gb[i]? = some (Sl.own M) → i ≠ k)
    (ok : ∀ i, BlkOk (X i).N (X i).env.scope scope [(x, k)] := by intro i; exact blkOk_by rfl) (hs : ∀ i x, foldedSetIterable iter (X i).env x = pure x := by intro _ _; rfl)
    (hN : ∀ i, (X i).N[k]? = some x := by intro i; rfl) (hx : ∀ i, Loc (blkX X scope i).env.scope x := by intro i; first | exact Or.inl rfl | exact Or.inr rfl) (hf : ∀ i, (blkX X scope i).fn x = true ∨ (blkX X scope i).env.scope.names.lookup x = some .local := by intro i; first | exact .inl rfl | exact .inr rfl) :
    TyE X Ga (.ListComp elt [⟨.Name x px, iter, [cnd], 0⟩] scope pos) (Ls ((ds.filter t).map f)) Gb := by
  have e1 : ∀ s : Sl, wipeG ((wipeG Gb [k]).set k s) [k] = wipeG Gb [k] := fun s => by
    show ((Gb.set k .any).set k s).set k .any = Gb.set k .any
    rw [List.set_set, List.set_set]
  exact e_r ((lc_flt (tt := uT (blkX X scope) cnd) (vs := [k]) (ks := [k]) hi hz (fun i M h => by simpa using hO i M h) (fun _ h => h)
    (fun d hd => g_name fun i => pg_name (nd i.1) (hN i.1) (hx i) (hf i)) (fun d hd => (ht d hd).tt) he (fun d _ => by rw [e1]; exact GaLe.refl _) (fun d _ => by rw [e1]; exact GaLe.refl _)).known Ml.known) (fun i => mk_lcI calm nd ok hs i)
theorem o_rep {k : Int} (h1 : 0 ≤ k) (h2 : k < 2 ^ 60) (hz : Ps.length * k.toNat ≤ sizeLine) : OpT rRep (Ls Ps) (IsI k) (Ls (List.replicate k.toNat Ps).flatten) := fun x y G H Q e p1 p2 kk => by
  obtain ⟨a, xs, rfl, hx, hp⟩ := p1
  refine ⟨a, k, xs, rfl, p2, e _ _ hx, by omega, by omega, by rw [hp.length]; exact hz, fun p hn => ?_⟩
  have t : Step none G H (upd G p (.lst (List.replicate k.toNat xs).flatten)) (upd H p (.lst (List.replicate k.toNat xs).flatten)) := Step.new e hn
  have : ∀ n : Nat, AllP (List.replicate n Ps).flatten (List.replicate n xs).flatten G := fun n => by
    induction n with
    | zero => exact trivial
    | succ n ih => rw [List.replicate_succ, List.replicate_succ, List.flatten_cons, List.flatten_cons]; exact hp.append ih
  exact kk _ _ _ t ⟨p, _, rfl, upd_same, (this _).mono t.k⟩
theorem e_rep {k : Int} (ha : TyE X Ga a (Ls Ps) Gb) (hc : TyE X Gb c (IsI k) Gc) (h1 : 0 ≤ k) (h2 : k < 2 ^ 60) (hz : Ps.length * k.toNat ≤ sizeLine) : TyE X Ga (.BinOp a .Mult c pos) (Ls (List.replicate k.toNat Ps).flatten) Gc := e_op (fun _ => op_rep) ha hc (o_rep h1 h2 hz)
end
/-! ### y = [..]: the list is stored within the comprehension -/
section
variable {ι : Type} {X : ι → Cx} {Ga Gb Gc : List Sl} {elt iter cnd tg : Expr} {scope : Scope} {pos spos px py : Pos} {x y : Str} {n : Option (List Sl)} {R : Pd} {O : Option Mo} {rest : List Stmt} {m : Nat}
theorem mk_sl {own : List (Str × Nat)} (calm : ∀ i, (X i).calm = true) (hN : ∀ i, (X i).N.Nodup) (hy : ∀ i, (X i).N[m]? = some y) (hyl : ∀ i, (X i).env.scope.names.lookup y = some .local) (hsw : ∀ i, swapsWith (.ListComp elt [⟨tg, iter, [], 0⟩] scope pos) (some (.Name y py)) spos.line (X i).env = pure true) (ok : ∀ i, BlkOk (X i).N (X i).env.scope scope own) (hs : ∀ i x, foldedSetIterable iter (X i).env x = pure x) (i : ι) :
    PS (X i) (.Assign [.Name y py] (.ListComp elt [⟨tg, iter, [], 0⟩] scope pos) spos) (tAsg (tLc (uI X tg iter) (uG (blkX X scope) tg) tYes (uE (blkX X scope) elt) (own.map (·.2))) (gName m)) :=
  ps_setLc (calm i) (hN i) (hy i) (hyl i) (hsw i) (uI_pi i) (ok i) (fun s H C cl fp => uG_pg (X := blkX X scope) (i, s, H, C, cl, fp)) (fun _ _ _ _ _ => pts_nil) (fun s H C cl fp => uE_pe (X := blkX X scope) (i, s, H, C, cl, fp)) (hs i)
theorem mk_slI {own : List (Str × Nat)} (calm : ∀ i, (X i).calm = true) (hN : ∀ i, (X i).N.Nodup) (hy : ∀ i, (X i).N[m]? = some y) (hyl : ∀ i, (X i).env.scope.names.lookup y = some .local) (hsw : ∀ i, swapsWith (.ListComp elt [⟨tg, iter, [cnd], 0⟩] scope pos) (some (.Name y py)) spos.line (X i).env = pure true) (ok : ∀ i, BlkOk (X i).N (X i).env.scope scope own) (hs : ∀ i x, foldedSetIterable iter (X i).env x = pure x) (i : ι) :
    PS (X i) (.Assign [.Name y py] (.ListComp elt [⟨tg, iter, [cnd], 0⟩] scope pos) spos) (tAsg (tLc (uI X tg iter) (uG (blkX X scope) tg) (uT (blkX X scope) cnd) (uE (blkX X scope) elt) (own.map (·.2))) (gName m)) :=
  ps_setLc (calm i) (hN i) (hy i) (hyl i) (hsw i) (uI_pi i) (ok i) (fun s H C cl fp => uG_pg (X := blkX X scope) (i, s, H, C, cl, fp)) (fun s H C cl fp => pts_one (uT_pt (X := blkX X scope) (i, s, H, C, cl, fp))) (fun s H C cl fp => uE_pe (X := blkX X scope) (i, s, H, C, cl, fp)) (hs i)
theorem b_lcN {α : Type} {ds : List α} {it f : α → Pd} (m k : Nat) (nd : ∀ i, (X i).N.Nodup) (calm : ∀ i, (X i).calm = true) (hi : TyI X Ga (.Name x px) iter (ds.map it) Gb) (he : ∀ d ∈ ds, TyE (blkX X scope) ((wipeG Gb [k]).set k (.is (it d))) elt (f d) ((wipeG Gb [k]).set k (.is (it d)))) (hz : ds.length ≤ sizeLine) (hO : ∀ i M, Gb[i]? = some (Sl.own M) → i ≠ k) (hr : TyB X (Gb.set m (.is (Ls (ds.map f)))) rest n R O)
    (ok : ∀ i, BlkOk (X i).N (X i).env.scope scope [(x, k)] := by intro i; exact blkOk_by rfl) (hs : ∀ i x, foldedSetIterable iter (X i).env x = pure x := by intro _ _; rfl)
    (hN : ∀ i, (X i).N[k]? = some x := by intro i; rfl) (hx : ∀ i, Loc (blkX X scope i).env.scope x := by intro i; first | exact Or.inl rfl | exact Or.inr rfl) (hf : ∀ i, (blkX X scope i).fn x = true ∨ (blkX X scope i).env.scope.names.lookup x = some .local := by intro i; first | exact .inl rfl | exact .inr rfl)
    (hy : ∀ i, (X i).N[m]? = some y := by intro i; rfl) (hyl : ∀ i, (X i).env.scope.names.lookup y = some .local := by intro i; rfl) (hsw : ∀ i, swapsWith (.ListComp elt [⟨.Name x px, iter, [], 0⟩] scope pos) (some (.Name y py)) spos.line (X i).env = pure true := by intro i; exact sw_true rfl rfl rfl rfl) :
    TyB X Ga (.Assign [.Name y py] (.ListComp elt [⟨.Name x px, iter, [], 0⟩] scope pos) spos :: rest) n R O :=
  b_setR (mk_sl calm nd hy hyl hsw ok hs) ((n_lcN k nd hi he hz hO hN hx hf).known Ml.known) hr
theorem b_lcF {α : Type} {ds : List α} {it f : α → Pd} {t : α → Bool} (m k : Nat) (nd : ∀ i, (X i).N.Nodup) (calm : ∀ i, (X i).calm = true) (hi : TyI X Ga (.Name x px) iter (ds.map it) Gb) (ht : ∀ d ∈ ds, TyT (blkX X scope) ((wipeG Gb [k]).set k (.is (it d))) cnd (t d) ((wipeG Gb [k]).set k (.is (it d))))
    (he : ∀ d ∈ ds, t d = true → TyE (blkX X scope) ((wipeG Gb [k]).set k (.is (it d))) elt (f d) ((wipeG Gb [k]).set k (.is (it d)))) (hz : ds.length ≤ sizeLine) (hO : ∀ i M, Gb[i]? = some (Sl.own M) → i ≠ k) (hr : TyB X (Gb.set m (.is (Ls ((ds.filter t).map f)))) rest n R O)
    (ok : ∀ i, BlkOk (X i).N (X i).env.scope scope [(x, k)] := by intro i; exact blkOk_by rfl) (hs : ∀ i x, foldedSetIterable iter (X i).env x = pure x := by intro _ _; rfl)
    (hN : ∀ i, (X i).N[k]? = some x := by intro i; rfl) (hx : ∀ i, Loc (blkX X scope i).env.scope x := by intro i; first | exact Or.inl rfl | exact Or.inr rfl) (hf : ∀ i, (blkX X scope i).fn x = true ∨ (blkX X scope i).env.scope.names.lookup x = some .local := by intro i; first | exact .inl rfl | exact .inr rfl)
    (hy : ∀ i, (X i).N[m]? = some y := by intro i; rfl) (hyl : ∀ i, (X i).env.scope.names.lookup y = some .local := by intro i; rfl) (hsw : ∀ i, swapsWith (.ListComp elt [⟨.Name x px, iter, [cnd], 0⟩] scope pos) (some (.Name y py)) spos.line (X i).env = pure true := by intro i; exact sw_true rfl rfl rfl rfl) :
    TyB X Ga (.Assign [.Name y py] (.ListComp elt [⟨.Name x px, iter, [cnd], 0⟩] scope pos) spos :: rest) n R O := by
  have e1 : ∀ s : Sl, wipeG ((wipeG Gb [k]).set k s) [k] = wipeG Gb [k] := fun s => by
    show ((Gb.set k .any).set k s).set k .any = Gb.set k .any
    rw [List.set_set, List.set_set]
  exact b_setR (mk_slI calm nd hy hyl hsw ok hs) ((lc_flt (tt := uT (blkX X scope) cnd) (vs := [k]) (ks := [k]) hi hz (fun i M h => by simpa using hO i M h) (fun _ h => h)
    (fun d hd => g_name fun i => pg_name (nd i.1) (hN i.1) (hx i) (hf i)) (fun d hd => (ht d hd).tt) he (fun d _ => by rw [e1]; exact GaLe.refl _) (fun d _ => by rw [e1]; exact GaLe.refl _)).known Ml.known) hr
end
/-- the least of a list -/
def minI : List Int → Int
  | [] => 0
  | x :: xs => xs.foldl min x
def maxI : List Int → Int
  | [] => 0
  | x :: xs => xs.foldl max x
theorem fold_min : ∀ (xs : List Int) (x : Int), (xs.foldl min x ∈ x :: xs) ∧ ∀ y ∈ x :: xs, xs.foldl min x ≤ y
  | [], x => ⟨by simp, fun y hy => by simp at hy; rw [hy]; exact Int.le_refl _⟩
  | z :: xs, x => by
    obtain ⟨h1, h2⟩ := fold_min xs (min x z)
    show ((xs.foldl min (min x z)) ∈ _) ∧ _
    have hm := h2 _ List.mem_cons_self
    refine ⟨?_, fun y hy => ?_⟩
    · rcases List.mem_cons.mp h1 with h | h
      · rw [h]
        by_cases hc : x ≤ z
        · rw [Int.min_eq_left hc]; exact List.mem_cons_self
        · rw [Int.min_eq_right (by omega)]; exact List.mem_cons_of_mem _ List.mem_cons_self
      · exact List.mem_cons_of_mem _ (List.mem_cons_of_mem _ h)
    · rcases List.mem_cons.mp hy with rfl | hy
      · exact Int.le_trans hm (Int.min_le_left _ _)
      · rcases List.mem_cons.mp hy with rfl | hy
        · exact Int.le_trans hm (Int.min_le_right _ _)
        · exact h2 y (List.mem_cons_of_mem _ hy)
theorem minI_mem {ns : List Int} (h : 0 < ns.length) : minI ns ∈ ns ∧ ∀ y ∈ ns, minI ns ≤ y := by
  cases ns with
  | nil => cases h
  | cons x xs => exact fold_min xs x
theorem minI_eq {ns : List Int} (h : 0 < ns.length) : ∀ m', m' ∈ ns → (∀ y, y ∈ ns → m' ≤ y) → m' = minI ns := fun m' h1 h2 => by
  obtain ⟨h3, h4⟩ := minI_mem h
  exact Int.le_antisymm (h2 _ h3) (h4 _ h1)
theorem fold_max : ∀ (xs : List Int) (x : Int), (xs.foldl max x ∈ x :: xs) ∧ ∀ y ∈ x :: xs, y ≤ xs.foldl max x
  | [], x => ⟨by simp, fun y hy => by simp at hy; rw [hy]; exact Int.le_refl _⟩
  | z :: xs, x => by
    obtain ⟨h1, h2⟩ := fold_max xs (max x z)
    show ((xs.foldl max (max x z)) ∈ _) ∧ _
    have hm := h2 _ List.mem_cons_self
    refine ⟨?_, fun y hy => ?_⟩
    · rcases List.mem_cons.mp h1 with h | h
      · rw [h]
        by_cases hc : x ≤ z
        · rw [Int.max_eq_right hc]; exact List.mem_cons_of_mem _ List.mem_cons_self
        · rw [Int.max_eq_left (by omega)]; exact List.mem_cons_self
      · exact List.mem_cons_of_mem _ (List.mem_cons_of_mem _ h)
    · rcases List.mem_cons.mp hy with rfl | hy
      · exact Int.le_trans (Int.le_max_left _ _) hm
      · rcases List.mem_cons.mp hy with rfl | hy
        · exact Int.le_trans (Int.le_max_right _ _) hm
        · exact h2 y (List.mem_cons_of_mem _ hy)
theorem maxI_mem {ns : List Int} (h : 0 < ns.length) : maxI ns ∈ ns ∧ ∀ y ∈ ns, y ≤ maxI ns := by
  cases ns with
  | nil => cases h
  | cons x xs => exact fold_max xs x
theorem maxI_eq {ns : List Int} (h : 0 < ns.length) : ∀ m', m' ∈ ns → (∀ y, y ∈ ns → y ≤ m') → m' = maxI ns := fun m' h1 h2 => by
  obtain ⟨h3, h4⟩ := maxI_mem h
  exact Int.le_antisymm (h4 _ h1) (h2 _ h3)
end Ty
end
section
/-! Dicts whose keys are tuples: {**a, **b}. -/
namespace Ow
open PySem PySem.Spec PyProof.Rows L2
open Evl (Ex)
section
variable {prog : Program} {w : World} {Kt : Type} [DecidableEq Kt] {hk : HeapKind prog w Kt} {A : Around} {E : Value → Shared → Prop} {s : Shared}
/-- an entry is laid without the key being hashed -/
theorem put_hashed {d a : Addr} {xs : List (Kt × Addr × Value)} {k : Kt} {v : Value} {Q : Unit → Shared → Prop} (hu : hk.room A) (hkey : hk.is s.heap k a) (hm : s.heap.DictOfH hk d xs) (hsz : xs.length ≤ sizeLine)
    (hQ : ∀ h', h'.DictOfH hk d (storedH xs k a v) → Heap.SameBut d s.heap h' → Q () { s with heap := h' }) : wpAny (model prog w) A (dictPut d (hk.hash k) (.ref a) v) Q E s := by
  obtain ⟨od, es, ep, hod, hcd, hdd, hed, hisd, hnd⟩ := hm
  have hes : es.size ≤ sizeLine := by rw [size_of_entries hed]; exact hsz
  unfold dictPut
  refine wpAny_bind (wpAny_dictFind_heap hu hkey hod hdd hed hisd hnd (fun hno => ?_) fun j p hj => ?_)
  · have at0 := atKey_none_of_get hno
    refine wpAny_updateDictKeys (hz := hes) hod hdd ?_
    have same : Heap.SameBut d s.heap (s.heap.update d (Obj.mapDictKeys fun l => l.push ⟨hk.hash k, .ref a, v⟩)) := Heap.SameBut.update ..
    refine hQ _ ?_ same
    rw [storedH_new at0]
    refine ⟨_, _, ep + 1, Heap.get?_update_self _ hod (Obj.isFreed_of_dict (Obj.data_mapDictKeys hdd _)), hcd.mapDictKeys _, Obj.data_mapDictKeys hdd _, by simp [hed, entryOfKey], fun x hx => ?_, ?_⟩
    · rcases List.mem_append.mp hx with hx | hx
      · exact hk.keeps (hisd x hx) hod hdd same
      · rw [List.mem_singleton] at hx
        rw [hx]; exact hk.keeps hkey hod hdd same
    · have hnot : k ∉ xs.map (·.1) := not_mem_keys_of_get hno
      rw [List.map_append, List.nodup_append]
      refine ⟨hnd, by simp, fun x hx y hy e => hnot ?_⟩
      have : y = k := by simpa using hy
      rw [← this, ← e]; exact hx
  · have at1 := atKey_of_get hnd hj
    refine wpAny_updateDict hod hdd ?_
    have same : Heap.SameBut d s.heap (s.heap.update d (Obj.mapDict fun l => l.modify j fun e => { e with val := v })) := Heap.SameBut.update ..
    refine hQ _ ?_ same
    rw [storedH_old at1]
    refine ⟨_, _, ep, Heap.get?_update_self _ hod (Obj.isFreed_of_dict (Obj.data_mapDict hdd _)), hcd.mapDict _, Obj.data_mapDict hdd _, ?_, fun x hx => ?_, by rw [keys_map_putAt]; exact hnd⟩
    · have e1 := modify_map_putAt (entryOfKey hk) (fun e : DictEntry => { e with val := v }) k v (fun _ _ => rfl) hnd hj
      rw [← hed] at e1
      obtain ⟨l⟩ := es
      simpa using e1
    · obtain ⟨y, hy, rfl⟩ := List.mem_map.mp hx
      have := hk.keeps (hisd y hy) hod hdd same
      unfold putAt
      split <;> exact this
/-- every entry of the dict at o goes into the dict at d -/
theorem merge_into {d o : Addr} {kvs more : List (Kt × Addr × Value)} {Q : Unit → Shared → Prop} (hu : hk.room A) (hdo : d ≠ o) (hoS : (o == sysModules) = false) (hd : s.heap.DictOfH hk d kvs) (ho : s.heap.DictOfH hk o more)
    (hap : kvs ≠ [] ∨ ((∀ x ∈ more, s.TypeIs (.ref x.2.1) "tuple") ∧ (more.map fun x => hk.hash x.1).Nodup)) (hsz : kvs.length + more.length ≤ sizeLine)
    (hQ : ∀ h', h'.DictOfH hk d (storedAllH kvs more) → Heap.SameBut d s.heap h' → Q () { s with heap := h' }) : wpAny (model prog w) A (mergeMapping d (.ref o) false) Q E s := by
  obtain ⟨od, esd, epd, hod, hcd, hdd, hed, hisd, hnd⟩ := id hd
  obtain ⟨oo, eso, epo, hoo, hco, hdo', heo, hiso, hno⟩ := id ho
  unfold mergeMapping
  refine wpAny_bind (wpAny_isInstance ho.typeIs isSubtype_dict_dict ?_)
  dsimp only
  rw [if_pos rfl]
  refine wpAny_bind (wpAny_specialOf ho.typeIs F.slot_dict_iter.lookup (wpAny_bind (wpAny_pure ?_)))
  rw [beq_self_eq_true]
  dsimp only
  rw [if_neg (by rw [hoS]; exact Bool.false_ne_true)]
  refine wpAny_bind (wpAny_dictEntries hod hdd ?_)
  have hlen : eso.size = more.length := size_of_entries heo
  have loop : ∀ (R : PUnit → Shared → Prop), (∀ h', h'.DictOfH hk d (storedAllH kvs more) → Heap.SameBut d s.heap h' → R PUnit.unit { s with heap := h' }) → wpAny (model prog w) A (forIn (List.range eso.size) PUnit.unit fun i (__s : PUnit) => do
      let __do_lift ← dictEntries o
      match __do_lift[i]? with
        | some e => do
          holding [e.key, e.val] (dictPut d e.hash e.key e.val)
          let __do_lift ← dictEpoch o
          if (__do_lift != epo) = true then do
              (unsupported "dict.changed-during-merge" : Sem PUnit)
              pure (ForInStep.yield PUnit.unit)
            else pure (ForInStep.yield PUnit.unit)
        | x => do
          (unsupported "dict.changed-during-merge" : Sem PUnit)
          pure (ForInStep.yield PUnit.unit)) R E s := fun R hR => by
    refine wpAny_forIn_list _ (fun rest _ s' => ∃ h' i, s' = { s with heap := h' } ∧ rest = List.range' i (eso.size - i) ∧ i ≤ eso.size ∧ h'.DictOfH hk d (storedAllH kvs (more.take i)) ∧ h'.DictOfH hk o more ∧ h'.get? o = some oo ∧ Heap.SameBut d s.heap h') _ ?_ ?_ _ _
      ⟨s.heap, 0, rfl, by rw [List.range_eq_range', Nat.sub_zero], Nat.zero_le _, by rw [List.take_zero]; exact hd, ho, hoo, Heap.SameBut.refl _ _⟩
    · rintro x rest b s' ⟨h1, i, rfl, hr, hi, hd1, ho1, hoo1, hs1⟩
      have hlt : i < eso.size := Nat.lt_of_le_of_ne hi fun z => by rw [z, Nat.sub_self] at hr; simp at hr
      rw [show eso.size - i = (eso.size - (i + 1)) + 1 by omega, List.range'_succ] at hr
      injection hr with ex er
      subst ex
      refine wpAny_bind (wpAny_dictEntries hoo1 hdo' ?_)
      have hkv : more[x]? = some more[x] := List.getElem?_eq_getElem (by omega)
      generalize more[x] = y at hkv
      obtain ⟨k, a, v⟩ := y
      rw [entry_at heo x, hkv]
      have hz1 : (storedAllH kvs (more.take x)).length ≤ sizeLine := by
        have z1 := storedAllH_length (more.take x) kvs
        rw [List.length_take] at z1
        omega
      have hkey : hk.is h1 k a := by
        obtain ⟨_, _, _, _, _, _, _, his1, _⟩ := ho1
        exact his1 (k, a, v) (List.mem_of_getElem? hkv)
      refine wpAny_bind (wpAny_holding (put_hashed (s := { s with heap := h1 }) hu hkey hd1 hz1 fun h2 hd2 hs2 => ?_))
      have hoo2 : h2.get? o = some oo := (hs2.2 o (Ne.symm hdo)).trans hoo1
      refine wpAny_bind (wpAny_dictEpoch hoo2 hdo' ?_)
      rw [if_neg (by simp)]
      refine wpAny_pure ⟨h2, x + 1, rfl, er, hlt, ?_, ho1.notHere hd1 hdo hs2, hoo2, hs1.trans hs2⟩
      rw [storedAllH_take_succ kvs more x (k, a, v) hkv]; exact hd2
    · rintro b s' ⟨h1, i, rfl, hr, hi, hd1, ho1, hoo1, hs1⟩
      have e : i = eso.size := by
        have := congrArg List.length hr
        rw [List.length_range'] at this
        simp at this
        omega
      rw [e, hlen, List.take_length] at hd1
      exact hR h1 hd1 hs1
  have tail : wpAny (model prog w) A (dictEntries o >>= fun l => dictEpoch o >>= fun epoch => (forIn (List.range l.size) PUnit.unit fun i (__s : PUnit) => do
      let __do_lift ← dictEntries o
      match __do_lift[i]? with
        | some e => do
          holding [e.key, e.val] (dictPut d e.hash e.key e.val)
          let __do_lift ← dictEpoch o
          if (__do_lift != epoch) = true then do
              (unsupported "dict.changed-during-merge" : Sem PUnit)
              pure (ForInStep.yield PUnit.unit)
            else pure (ForInStep.yield PUnit.unit)
        | x => do
          (unsupported "dict.changed-during-merge" : Sem PUnit)
          pure (ForInStep.yield PUnit.unit)) >>= fun _ => pure ()) Q E s :=
    wpAny_bind (wpAny_dictEntries hoo hdo' (wpAny_bind (wpAny_dictEpoch hoo hdo' (wpAny_bind (loop _ fun h' a b => wpAny_pure (hQ h' a b))))))
  by_cases hemp : esd.isEmpty = true
  · rw [if_pos hemp]
    have hkvs : kvs = [] := by
      have z := size_of_entries hed
      rw [Array.isEmpty_iff.mp hemp] at z
      exact List.length_eq_zero_iff.mp (by simpa using z.symm)
    obtain ⟨hty, hnh⟩ := hap.resolve_left fun h => h hkvs
    have apart := keysApart heo hty hnh
    refine wpAny_bind (wpAny_dictEntries hoo hdo' ?_)
    refine wpAny_bind ?_
    rw [← Array.forIn_toList]
    refine wpAny_forIn_list _ (fun rest _ s' => s' = s ∧ ∀ e ∈ rest, KeyApart s eso e) _ ?_ ?_ _ _ ⟨rfl, apart⟩
    · rintro e rest b s' ⟨rfl, hall⟩
      have go : ∀ x ∈ rest, KeyApart s' eso x := fun x hx => hall x (List.mem_cons_of_mem _ hx)
      rcases hall e List.mem_cons_self with hv | ⟨a, ek, hT, h1⟩
      · cases ek : e.key with
        | ref a => rw [ek] at hv; cases hv
        | _ => exact wpAny_pure ⟨rfl, go⟩
      · rw [ek]
        refine wpAny_bind (wpAny_specialOf hT F.slot_tuple_eq.lookup ?_)
        refine wpAny_ite_split (fun _ => ?_) fun _ => wpAny_pure ⟨rfl, go⟩
        rw [if_neg (by omega)]
        exact wpAny_pure ⟨rfl, go⟩
    · rintro b s' ⟨rfl, _⟩
      exact tail
  · rw [if_neg hemp]
    exact tail
end
end Ow
end
section
/-! {**a, **b} as a reading. -/
namespace Ow
open PySem PySem.Spec PyProof.Rows L2
open Evl (Ex)
def mergeT (kvs more : List (List Key × V)) : List (List Key × V) := more.foldl (fun acc kv => putK acc kv.1 kv.2) kvs
theorem mergeT_len : ∀ (more kvs : List (List Key × V)), (mergeT kvs more).length ≤ kvs.length + more.length
  | [], kvs => Nat.le_refl _
  | p :: r, kvs => by
    have h1 := mergeT_len r (putK kvs p.1 p.2)
    have h2 := length_putK kvs p.1 p.2
    show (mergeT (putK kvs p.1 p.2) r).length ≤ _
    rw [List.length_cons]; omega
theorem kt_merge {H : Hp} : ∀ {more : List (List Key × V)} {ms : List (List Key × Addr × Value)} {kvs : List (List Key × V)} {xs : List (List Key × Addr × Value)}, KT H more ms → KT H kvs xs → KT H (mergeT kvs more) (storedAllH xs ms) := by
  intro more ms kvs xs r
  induction r generalizing kvs xs with
  | nil => intro q; exact q
  | @cons p q ps qs h t ih =>
    intro r0
    obtain ⟨h1, h2, h3⟩ := h
    have z := r0.put p.1 h2 h3
    have e : storedAllH xs (q :: qs) = storedAllH (storedH xs p.1 q.2.1 q.2.2) qs := by rw [h1]; rfl
    rw [e]
    exact ih z
/-- keys of different hashes -/
def HNd (X : Cx) (ks : List (List Key)) : Prop := (ks.map (tupleKeyHash (mixKind X.prog X.w))).Nodup
section
variable {X : Cx} {pins : List (Addr × Obj)} {σ : L2.St} {H : Hp} {s : Shared} {a p : Addr} {kvs more : List (List Key × V)} {A : Around} {E : Value → Shared → Prop}
theorem kt_keys {H : Hp} {kvs : List (List Key × V)} {xs : List (List Key × Addr × Value)} (r : KT H kvs xs) : kvs.map (·.1) = xs.map (·.1) := by
  induction r with
  | nil => rfl
  | cons h t ih => rw [List.map_cons, List.map_cons, ih, h.1]
/-- the dict at a goes into the dict at p -/
theorem d_merge {Q : Unit → Shared → Prop} (hu : A.units < cLine) (I : Inv X pins σ H s) (hp : H p = some (.dT kvs)) (ha : H a = some (.dT more)) (hne : p ≠ a) (hh : HNd X (more.map (·.1))) (hz : kvs.length + more.length ≤ sizeLine)
    (h : ∀ s', Inv X pins σ (upd H p (.dT (mergeT kvs more))) s' → Q () s') : wpAny (model X.prog X.w) A (mergeMapping p (.ref a) false) Q E s := by
  obtain ⟨z1, y1, xs, r1, d1⟩ := dt_of I.hok hp
  obtain ⟨z2, y2, ms, r2, d2⟩ := dt_of I.hok ha
  have hty : ∀ x ∈ ms, s.TypeIs (.ref x.2.1) "tuple" := fun x hx => by
    obtain ⟨_, _, _, _, _, _, _, his, _⟩ := id d2
    exact (show IsTupleKey _ s.heap x.1 x.2.1 from his x hx).typeIs
  have hnh : (ms.map fun x => (tupleKind (mixKind X.prog X.w)).hash x.1).Nodup := by
    have e : (ms.map fun x => (tupleKind (mixKind X.prog X.w)).hash x.1) = (ms.map (·.1)).map (tupleKeyHash (mixKind X.prog X.w)) := by rw [List.map_map]; rfl
    rw [e, ← kt_keys r2]
    exact hh
  have l1 := Paired.length r1
  have l2 := Paired.length r2
  refine merge_into (hk := tupleKind (mixKind X.prog X.w)) hu hne y2 d1 d2 (.inr ⟨hty, hnh⟩) (by rw [← l1, ← l2]; exact hz) fun h' dd hs => ?_
  refine h _ ?_
  obtain ⟨q, es, ep, hq, h2, h3, h4, _, h5⟩ := dd
  refine d_write (t' := s.toks) I (by rw [hp]; exact True.intro) hs ⟨q, hq⟩ ⟨Nat.le_trans (mergeT_len more kvs) hz, y1, _, (kt_merge r2 r1).keeps fun c ys ec => ?_, q, es, ep, hq, h2, h3, h4, h5⟩
  rw [upd_ne (ne_of ec hp (fun z => nomatch z))]
  exact ec
end
/-- {**a, **b} -/
def tDS (t1 t2 : TE) (nd : List (List Key) → Prop) : TE := fun σ H Q => ∀ p, H p = none → t1 σ (upd H p (.dT [])) fun x H1 => ∃ a k1, x = .ref a ∧ H1 a = some (.dT k1) ∧ p ≠ a ∧ H1 p = some (.dT []) ∧ nd (k1.map (·.1)) ∧ k1.length ≤ 1000 ∧
  t2 σ (upd H1 p (.dT (mergeT [] k1))) fun y H2 => ∃ b k2 k0, y = .ref b ∧ H2 b = some (.dT k2) ∧ p ≠ b ∧ H2 p = some (.dT k0) ∧ k0.length ≤ 1000 ∧ nd (k2.map (·.1)) ∧ k2.length ≤ 1000 ∧ Q (.ref p) (upd H2 p (.dT (mergeT k0 k2)))
theorem quiet_part {M : Model} {A : Around} {E : Value → Shared → Prop} {s : Shared} {α : Type} {m : Sem α} {k1 k3 : Value → Sem Unit} {k2 : Value → Sem α} {vs : List Value} {Q : α → Shared → Prop} (h : ∀ E', wpAny M A m Q E' s) :
    wpAny M A ((tryCatch ((holding vs m).onRaise k1) k2).onRaise k3) Q E s := wpAny_onRaise (wpAny_tryCatch (wpAny_onRaise (wpAny_holding (h _))))
section
variable {X : Cx} {e1 e2 : Expr} {t1 t2 : TE} {pos : Pos}
theorem pe_ds (hu : X.A.units < cLine) (h1 : PE X e1 t1) (h2 : PE X e2 t2) : PE X (.Dict [none, none] [e1, e2] pos) (tDS t1 t2 (HNd X)) := by
  refine ⟨fun pins s σ H Q I h => ?_⟩
  rw [arm_eval_Dict]
  refine wpAny_bind (wpAny_standAt ?_)
  show wpAny _ _ (dictDisplay [(none, _), (none, _)]) _ _ _
  have hn := I.hok.fresh (Nat.le_refl s.heap.objs.size)
  have I1 := I.laid (a := s.heap.objs.size) (o := .dT []) (h' := s.heap.push { cls := .type "dict", data := .dict #[] }) (t' := s.toks) (fun _ _ q => Heap.get?_push_of_some _ q) (Nat.le_refl _) (dt_empty s.heap I.big)
  have z1000 : 2000 ≤ sizeLine := by rw [sizeLine_eq]; decide
  unfold dictDisplay
  simp only [List.forIn_cons, List.forIn_nil]
  have q0 := h _ hn
  generalize hps : s.heap.objs.size = p at *
  refine wpAny_bind (wpAny_bind (wpAny_bind ?_))
  rw [if_pos (by rfl)]
  refine wpAny_pure (wpAny_bind (wpAny_alloc ?_))
  rw [hps]
  refine wpAny_bind (wpAny_holding (wpAny_bind (thn (h1.run pins _ σ _ _ I1 q0) fun v s1 ⟨x, H1, I2, r1, a, k1, ex, ha, hpa, hp1, nd1, l1, q1⟩ => wpAny_bind (wpAny_standAt (wpAny_pure ?_)))))
  subst ex
  obtain rfl : v = Value.ref a := r1
  refine wpAny_bind (quiet_part fun E' => d_merge hu I2 hp1 ha hpa nd1 (by rw [List.length_nil]; omega) fun s2 I3 => ?_)
  refine wpAny_pure ?_
  refine wpAny_bind (wpAny_bind ?_)
  rw [if_pos (by rfl)]
  refine wpAny_pure (wpAny_bind (wpAny_pure ?_))
  refine wpAny_bind (wpAny_holding (wpAny_bind (thn (h2.run pins _ σ _ _ I3 q1) fun v s3 ⟨y, H2, I4, r2, b, k2, k0, ey, hb, hpb, hp2, l0, nd2, l2, q2⟩ => wpAny_bind (wpAny_standAt (wpAny_pure ?_)))))
  subst ey
  obtain rfl : v = Value.ref b := r2
  refine wpAny_bind (quiet_part fun E' => d_merge hu I4 hp2 hb hpb nd2 (by omega) fun s4 I5 => ?_)
  refine wpAny_pure (wpAny_pure ?_)
  refine wpAny_bind ?_
  rw [if_pos (by rfl)]
  exact wpAny_pure (wpAny_pure ⟨.ref p, _, I5, rfl, q2⟩)
end
end Ow
end
section
/-! Dict comprehensions whose keys are tuples. -/
namespace Ow
open PySem PySem.Spec PyProof.Rows L2
open Evl (Ex)
section
variable {X : Cx} {pins : List (Addr × Obj)} {σ : L2.St} {H : Hp} {s : Shared}
/-- the dict at D takes y at the tuple at b -/
theorem d_set {E : Value → Shared → Prop} {D b : Addr} {kvs : List (List Key × V)} {k : List Key} {y : V} {r : Value} {Q : Unit → Shared → Prop} (hu : X.A.units < cLine) (I : Inv X pins σ H s) (hD : H D = some (.dT kvs)) (hz : kvs.length < sizeLine) (hb : H b = some (.tup (k.map kV)))
    (rv : RelV y r) (h : ∀ s', Inv X pins σ (upd H D (.dT (putK kvs k y))) s' → Q () s') : wpAny (model X.prog X.w) X.A (dictSet D (.ref b) r) Q E s := by
  obtain ⟨z, y0, xs, rel, dd⟩ := dt_of I.hok hD
  have l := Paired.length rel
  have lp : (putK kvs k y).length ≤ sizeLine := Nat.le_trans (length_putK kvs k y) hz
  refine wpAny_dictSet_heap (knd := tupleKind (mixKind X.prog X.w)) (hsz := by omega) hu (key_of I.hok hb) dd fun h' d1 same => h _ ?_
  obtain ⟨q, es, ep, hq, h2, h3, h4, _, h5⟩ := d1
  refine d_write I (by rw [hD]; trivial) same ⟨q, hq⟩ ⟨lp, y0, _, (rel.put k hb rv).keeps fun c ys ec => ?_, q, es, ep, hq, h2, h3, h4, h5⟩
  rw [upd_ne (ne_of ec hD fun z => nomatch z)]; exact ec
/-- {k: v for target in iter if ..}, the keys new tuples -/
def tDcT (wi : TI) (g : TG) (tt : TT) (tk tv : TE) (vs : List Nat) : TE := fun σ H Q => wi σ H fun J H1 => ∀ D, H1 D = none → ∃ W : Nat → Nat → Hp → Prop, (∃ m, W 0 m (upd H1 D (.dT []))) ∧ ∀ i m H, W i m H →
  (J.stop i H ∧ Q (.ref D) H) ∨ (J.go i H ∧ ∃ Nx : Hp → Prop, (∀ H', Nx H' → ∃ m', m' < m ∧ W (i + 1) m' H') ∧ ∀ x H', J.yld i H x H' → g x (L2.wipe σ vs) H' fun σ2 H2 => L2.wipe σ2 vs = L2.wipe σ vs ∧ tt σ2 H2 fun b H3 =>
    if b = true then tk σ2 H3 fun y H4 => tv σ2 H4 fun z H5 => ∃ kvs k a, y = .ref a ∧ H5 a = some (.tup (k.map kV)) ∧ H5 D = some (.dT kvs) ∧ kvs.length < sizeLine ∧ Nx (upd H5 D (.dT (putK kvs k z))) else Nx H3)
theorem pe_dcT {kx vx tg iter : Expr} {ifs : List Expr} {scope : Scope} {own : List (Str × Nat)} {pos : Pos} {wi : TI} {g : TG} {tt : TT} {tk tv : TE} (hu : X.A.units < cLine) (calm : X.calm = true) (nd : X.N.Nodup) (hi : PI X tg iter wi) (ok : BlkOk X.N X.env.scope scope own)
    (hg : ∀ (t : Shared) (J : Hp) (c : Addr) (cl : List (Str × Addr)) (fp : List Addr), PG (X.blk t J scope (compEnvC scope cl c X.env) fp) tg g) (ht : ∀ (t : Shared) (J : Hp) (c : Addr) (cl : List (Str × Addr)) (fp : List Addr), PTs (X.blk t J scope (compEnvC scope cl c X.env) fp) ifs tt)
    (hk : ∀ (t : Shared) (J : Hp) (c : Addr) (cl : List (Str × Addr)) (fp : List Addr), PE (X.blk t J scope (compEnvC scope cl c X.env) fp) kx tk) (he : ∀ (t : Shared) (J : Hp) (c : Addr) (cl : List (Str × Addr)) (fp : List Addr), PE (X.blk t J scope (compEnvC scope cl c X.env) fp) vx tv)
    (hs : ∀ x, foldedSetIterable iter X.env x = pure x := by intro _; rfl) : PE X (.DictComp kx vx [⟨tg, iter, ifs, 0⟩] scope pos) (tDcT wi g tt tk tv (own.map (·.2))) := by
  refine ⟨fun pins s σ H Q I h => ?_⟩
  rw [arm_eval_DictComp]
  have free : ∀ y ∈ scope.names, y.2 = .free → ∃ c, X.env.cells.lookup y.1 = some c := fun y hy e => by
    rcases ok.free y hy e with k | k
    · exact I.ok.has _ (.inl k)
    · exact I.ok.has _ (.inr k)
  refine wpAny_comprehension_free rfl hs (closure_ok free) ok.kind (fun y hy e => by rw [ok.uniq y hy, e]) (thn (hi.run pins s σ H _ I h) fun xv s1 hx => thn hx fun itv s2 h2 => ?_)
  obtain ⟨it, fp, tn, J, H2, e, I2, T, stn, f2, q⟩ := h2
  subst e
  refine wpAny_newObj_type (newEnv_comp ?_)
  generalize hD : s2.heap.objs.size = D
  have fresh : H2 D = none := I2.hok.fresh (Nat.le_of_eq hD)
  obtain ⟨W, ⟨m0, w0⟩, turn⟩ := q D fresh
  generalize ht3 : ({ s2 with heap := s2.heap.push { cls := .type "dict", data := .dict #[] } } : Shared) = t3
  have I3 : Inv X pins σ (upd H2 D (.dT [])) t3 := by
    rw [← ht3, ← hD]
    exact I2.laid (t' := s2.toks) (fun b o e => Heap.get?_push_of_some _ e) (Nat.le_refl _) (dt_empty s2.heap I2.big)
  have eh : t3.heap = s2.heap.push { cls := .type "dict", data := .dict #[] } := by rw [← ht3]
  have small : ∀ b ∈ fp, b < s2.heap.objs.size := fun b hb => by
    obtain ⟨o, e, _⟩ := T.obj _ _ stn b hb
    exact Heap.lt_size e
  have f3 : ∀ b ∈ fp, FpOk X pins (upd H2 D (.dT [])) b ∧ b < t3.heap.objs.size := fun b hb => by
    have lt := small b hb
    refine ⟨⟨?_, (f2 b hb).2⟩, by rw [eh, Heap.size_push]; exact Nat.lt_succ_of_lt lt⟩
    rw [upd_ne (by rw [← hD]; exact Nat.ne_of_lt lt)]; exact (f2 b hb).1
  have st3 : tn 0 t3.heap := T.keep _ _ _ stn fun b _ o e => by rw [eh]; exact Heap.get?_push_of_some _ e
  have I4 := block_start I3 ok nd f3
  generalize hcl : cellsFrom (t3.heap.objs.size + 1) scope.names (cloFrom X.env.cells scope.names []) = cl at I4
  have pg := hg t3 (upd H2 D (.dT [])) t3.heap.objs.size cl fp
  have pt := ht t3 (upd H2 D (.dT [])) t3.heap.objs.size cl fp
  have pk := hk t3 (upd H2 D (.dT [])) t3.heap.objs.size cl fp
  have pe := he t3 (upd H2 D (.dT [])) t3.heap.objs.size cl fp
  show codeAny _ _ (.compStart (.DictComp kx vx [⟨tg, iter, ifs, 0⟩] scope pos) 0 (.ref it) (.ref D) (compEnvC scope cl t3.heap.objs.size X.env)) (compPost (model X.prog X.w) X.A X.xe none _ (.ref D) t3.heap.objs.size) { t3 with heap := pushCells (t3.heap.push { cls := .type "dict", data := .dict #[] }) scope.names }
  have nfp : ∀ b ∈ fp, (upd H2 D (.dT [])) b = none := fun b hb => (f3 b hb).1.1
  generalize hce : compEnvC scope cl t3.heap.objs.size X.env = ce at I4 pg pt pk pe ⊢
  have cL : ce.locals = t3.heap.objs.size := by subst hce; rfl
  generalize upd H2 D (.dT []) = H3 at I3 I4 pg pt pk pe w0 nfp f3
  generalize ht4 : ({ t3 with heap := pushCells (t3.heap.push { cls := .type "dict", data := .dict #[] }) scope.names } : Shared) = t4 at I4 ⊢
  have st4 : tn 0 t4.heap := T.keep _ _ _ st3 fun b _ o e => by rw [← ht4]; exact pushCells_keeps _ _ _ _ (Heap.get?_push_of_some _ e)
  have stat : ∀ {σ' : L2.St} {H' : Hp} {s' : Shared}, Inv (X.blk t3 H3 scope ce fp) [] σ' H' s' → (∀ b ∈ fp, H' b = none) → ∀ b ∈ fp, FpOk (X.blk t3 H3 scope ce fp) [] H' b := fun {σ' H' s'} J' hn b hb =>
    ⟨hn b hb, (J'.ok.exf b hb).1, J'.ok.exfs b hb, .inl hb, fun x c e => (J'.ok.exf b hb).2 x c e, fun p hp => absurd (show p ∈ ([] : List (Addr × Obj)) ++ [] from hp) (by simp)⟩
  refine (fun loop => codeAny_compStart_dict loop (T.self X.A 0 _ _ _ st4 loop)) ?_
  refine compLoop_anyD (fun n s' => ∃ i H', Inv (X.blk t3 H3 scope ce fp) [] (L2.wipe σ (own.map (·.2))) H' s' ∧ tn i s'.heap ∧ (∀ b ∈ fp, H' b = none) ∧ W i n H') ?_ m0 ⟨0, H3, I4, st4, nfp, w0⟩
  rintro n s5 ⟨i, H5, I5, st5, n5, w5⟩
  rcases turn i n H5 w5 with ⟨stop, qq⟩ | ⟨go, Nx, hNx, step⟩
  · refine thnF (T.done (X.blk t3 H3 scope ce fp) rfl rfl rfl calm i [] s5 _ H5 (fun _ _ => False) I5 (stat I5 n5) st5 stop) fun r s6 ⟨er, I6⟩ => ?_
    subst er
    have I7 : Inv X pins σ H5 s6 := I3.call' (ch := fp) I6.os I6.base I6.hok I6.bare fun b hb => ⟨(f3 b hb).1.2.2.2.1, (f3 b hb).1.2.1, (f3 b hb).1.2.2.2.2.1, (f3 b hb).1.2.2.2.2.2⟩
    have noC : H5 t3.heap.objs.size = none := by
      have z : H5 ce.locals = none := I6.free
      rwa [cL] at z
    obtain ⟨m, hn, _⟩ := I6.loc
    have hn : s6.heap.Ns ce.locals m := hn
    rw [cL] at hn
    obtain ⟨f0, f1, f2, f4, f5, f6⟩ := I3.fpOk (Nat.le_refl _) noC
    refine ⟨m, hn, fun h'' sb => ?_⟩
    exact ⟨.ref D, H5, I7.turned (t' := s6.toks) (fun b o hb e => (sb.2 b hb).trans e) noC f1 f4 f5 f6, rfl, qq⟩
  · refine thnF (T.item (X.blk t3 H3 scope ce fp) rfl rfl rfl calm i [] s5 _ H5 (fun _ _ => False) I5 (stat I5 n5) st5 go) fun r s6 ⟨u, er, h6⟩ => ?_
    subst er
    refine thnF h6 fun _ s7 ⟨x, H7, I7, r7, y7, st7, n7⟩ => ?_
    have J7 := I7.pinned (stat I7 n7) (T.obj _ _ st7)
    refine thnF (pg.run _ s7 _ H7 x u _ J7 r7 (step x H7 y7)) fun _ s8 ⟨σ8, H8, I8, hw8, q8⟩ => ?_
    refine thnF (pt.run _ s8 σ8 H8 _ I8 q8) fun b s9 ⟨H9, I9, q9⟩ => ?_
    have fin : ∀ {s' : Shared} {H' : Hp}, Inv (X.blk t3 H3 scope ce fp) ([] ++ pinsAt fp s7.heap) σ8 H' s' → Nx H' → ∃ m, m < n ∧ ∃ i H', Inv (X.blk t3 H3 scope ce fp) [] (L2.wipe σ (own.map (·.2))) H' s' ∧ tn i s'.heap ∧ (∀ b ∈ fp, H' b = none) ∧ W i m H' := fun {s' H'} J' nx => by
      obtain ⟨m', hm, w'⟩ := hNx H' nx
      have pin : ∀ b ∈ fp, ∀ o, s7.heap.get? b = some o → s'.heap.get? b = some o ∧ H' b = none := fun b hb o e =>
        let z := J'.pin (b, o) (List.mem_append_right _ (List.mem_append_right _ (mem_pinsAt hb e)))
        ⟨z.1, z.2.1⟩
      have hl : (L2.wipe σ (own.map (·.2))).length = σ8.length := by rw [← hw8, wipe_length]
      refine ⟨m', hm, i + 1, H', (J'.unpinned (pins := [])).weak hl (fun j v e => ?_), T.keep _ _ _ st7 fun b hb o e => (pin b hb o e).1, fun b hb => ?_, w'⟩
      · rw [← hw8] at e; exact (wipe_some e).1
      · obtain ⟨o, e, _⟩ := T.obj _ _ st7 b hb
        exact (pin b hb o e).2
    cases b with
    | false =>
      simp only [Bool.false_eq_true, if_false] at q9 ⊢
      exact fin I9 q9
    | true =>
      simp only [if_true] at q9 ⊢
      refine thnF (pk.run _ s9 σ8 H9 _ I9 q9) fun z s10 ⟨yk, H10, I10, r10, q10⟩ => ?_
      refine thnF (pe.run _ s10 σ8 H10 _ I10 q10) fun z2 s11 ⟨yv, H11, I11, r11, kvs, k, a, ek, hkey, hD11, hz11, nx⟩ => ?_
      subst ek
      obtain rfl : z = Value.ref a := r10
      exact d_set (X := X.blk t3 H3 scope ce fp) hu I11 hD11 hz11 hkey r11 fun s12 I12 => fin I12 nx
end
end Ow
end
section
/-! Dicts whose keys are pairs of numbers. -/
namespace Ty
open PySem PySem.Spec PyProof.Rows L2
open Evl (Ex)
def keyP (p : Nat × Nat) : List Key := [.inl ((p.1 : Nat) : Int), .inl ((p.2 : Nat) : Int)]
abbrev prP (p : Nat × Nat) : Pd := Tp [IsI (p.1 : Nat), IsI (p.2 : Nat)]
def kz (ks : List (Nat × Nat)) (vs : List V) : List (List Key × V) := (ks.map keyP).zip vs
theorem keyP_inj {p q : Nat × Nat} (h : keyP p = keyP q) : p = q := by
  unfold keyP at h
  injection h with h1 h2
  injection h2 with h2 h3
  injection h1 with h1
  injection h2 with h2
  exact Prod.ext (by omega) (by omega)
def setF (f : Nat × Nat → Pd) (k : Nat × Nat) (P : Pd) : Nat × Nat → Pd := fun x => if x = k then P else f x
def Dc (ks : List (Nat × Nat)) (f : Nat × Nat → Pd) : Mo := ⟨fun o G => ∃ vs, o = .dT (kz ks vs) ∧ AllP (ks.map f) vs G, fun e ⟨vs, h1, h2⟩ => ⟨vs, h1, h2.mono e⟩⟩
def Dt (ks : List (Nat × Nat)) (f : Nat × Nat → Pd) : Pd := ⟨fun v G => ∃ a vs, v = .ref a ∧ G a = some (.dT (kz ks vs)) ∧ AllP (ks.map f) vs G, fun e ⟨a, vs, h1, h2, h3⟩ => ⟨a, vs, h1, e _ _ h2, h3.mono e⟩⟩
theorem Dc.known {ks : List (Nat × Nat)} {f : Nat × Nat → Pd} (p : Addr) (o : HO) (G : Hp) (hg : G p = none) (m : (Dc ks f).m o G) : (Dt ks f).p (.ref p) (upd G p o) := by
  obtain ⟨vs, rfl, h⟩ := m
  exact ⟨p, vs, rfl, upd_same, h.mono (Evl.Ex.new hg)⟩
theorem kz_get {f : Nat × Nat → Pd} {G : Hp} {k : Nat × Nat} : ∀ {ks : List (Nat × Nat)} {vs : List V}, AllP (ks.map f) vs G → k ∈ ks → ∃ v, valV (kz ks vs) (keyP k) = some v ∧ (f k).p v G
  | [], _, _, h => by cases h
  | k0 :: ks, [], h, _ => h.elim
  | k0 :: ks, v :: vs, h, hm => by
    show ∃ u, valV ((keyP k0, v) :: kz ks vs) (keyP k) = some u ∧ _
    by_cases e : k0 = k
    · subst e
      exact ⟨v, valV_pos rfl, h.1⟩
    · rw [valV_neg (fun z => e (keyP_inj z))]
      exact kz_get h.2 ((List.mem_cons.mp hm).resolve_left fun z => e z.symm)
theorem kz_rep {f : Nat × Nat → Pd} {G : Hp} {k : Nat × Nat} {P : Pd} {u : V} (p : P.p u G) : ∀ {ks : List (Nat × Nat)} {vs : List V}, AllP (ks.map f) vs G → ∃ vs', ((kz ks vs).map fun kv => if kv.1 = keyP k then (kv.1, u) else kv) = kz ks vs' ∧ AllP (ks.map (setF f k P)) vs' G
  | [], [], _ => ⟨[], rfl, trivial⟩
  | [], _ :: _, h => h.elim
  | _ :: _, [], h => h.elim
  | k0 :: ks, v :: vs, h => by
    obtain ⟨vs', e, a⟩ := kz_rep (k := k) p (ks := ks) (vs := vs) h.2
    by_cases c : k0 = k
    · subst c
      refine ⟨u :: vs', ?_, ?_, a⟩
      · show (if keyP k0 = keyP k0 then (keyP k0, u) else (keyP k0, v)) :: ((kz ks vs).map _) = (keyP k0, u) :: kz ks vs'
        rw [if_pos rfl, e]
      · show (setF f k0 P k0).p u G
        unfold setF; rw [if_pos rfl]; exact p
    · refine ⟨v :: vs', ?_, ?_, a⟩
      · show (if keyP k0 = keyP k then (keyP k0, u) else (keyP k0, v)) :: ((kz ks vs).map _) = (keyP k0, v) :: kz ks vs'
        rw [if_neg (fun z => c (keyP_inj z)), e]
      · show (setF f k P k0).p v G
        unfold setF; rw [if_neg c]; exact h.1
theorem kz_put {f : Nat × Nat → Pd} {G : Hp} {k : Nat × Nat} {P : Pd} {u : V} {ks : List (Nat × Nat)} {vs : List V} (h : AllP (ks.map f) vs G) (hm : k ∈ ks) (p : P.p u G) : ∃ vs', putK (kz ks vs) (keyP k) u = kz ks vs' ∧ AllP (ks.map (setF f k P)) vs' G := by
  obtain ⟨v, e, _⟩ := kz_get h hm
  unfold putK
  rw [valV_any, e, if_pos (by rfl)]
  exact kz_rep p h
theorem kz_none {k : Nat × Nat} : ∀ {ks : List (Nat × Nat)} {vs : List V}, k ∉ ks → valV (kz ks vs) (keyP k) = none
  | [], _, _ => rfl
  | _ :: _, [], _ => rfl
  | k0 :: ks, v :: vs, h => by
    show valV ((keyP k0, v) :: kz ks vs) (keyP k) = none
    rw [valV_neg (fun z => h (by rw [keyP_inj z]; exact List.mem_cons_self))]
    exact kz_none fun z => h (List.mem_cons_of_mem _ z)
theorem kz_new {k : Nat × Nat} {u : V} {ks : List (Nat × Nat)} {vs : List V} (hl : vs.length = ks.length) (h : k ∉ ks) : putK (kz ks vs) (keyP k) u = kz (ks ++ [k]) (vs ++ [u]) := by
  rw [putK_new _ (kz_none h)]
  unfold kz
  rw [List.map_append, List.zip_append (by rw [List.length_map, hl])]
  rfl
theorem kz_merge : ∀ {ls : List (Nat × Nat)} {ws vs : List V} {ks : List (Nat × Nat)}, vs.length = ks.length → ws.length = ls.length → ls.Nodup → (∀ k ∈ ls, k ∉ ks) → Ow.mergeT (kz ks vs) (kz ls ws) = kz (ks ++ ls) (vs ++ ws)
  | [], [], vs, ks, _, _, _, _ => by rw [List.append_nil, List.append_nil]; rfl
  | [], _ :: _, _, _, _, h, _, _ => by simp at h
  | _ :: _, [], _, _, _, h, _, _ => by simp at h
  | l :: ls, u :: ws, vs, ks, h1, h2, hn, hd => by
    show Ow.mergeT (putK (kz ks vs) (keyP l) u) (kz ls ws) = _
    rw [kz_new h1 (hd l List.mem_cons_self)]
    rw [List.nodup_cons] at hn
    rw [kz_merge (by simp [h1]) (by simpa using h2) hn.2 fun k hk z => by
      rcases List.mem_append.mp z with z | z
      · exact hd k (List.mem_cons_of_mem _ hk) z
      · rw [List.mem_singleton] at z; rw [z] at hk; exact hn.1 hk]
    rw [List.append_assoc, List.append_assoc]; rfl
theorem kz_len {ks : List (Nat × Nat)} {vs : List V} (h : vs.length = ks.length) : (kz ks vs).length = ks.length := by
  unfold kz
  rw [List.length_zip, List.length_map, h, Nat.min_self]
theorem kz_keys {ks : List (Nat × Nat)} {vs : List V} (h : vs.length = ks.length) : (kz ks vs).map (·.1) = ks.map keyP := by
  unfold kz
  rw [List.map_fst_zip (by rw [List.length_map, h]; exact Nat.le_refl _)]
theorem AllP.len2 {f : Nat × Nat → Pd} {G : Hp} {ks : List (Nat × Nat)} {vs : List V} (h : AllP (ks.map f) vs G) : vs.length = ks.length := by rw [h.length, List.length_map]
/-- the hashes of small pairs are different -/
def hp2 (i j : Nat) : Int := reduceHash (Builtin.Tuple.tupleHashOf [hashInt (i : Nat), hashInt (j : Nat)])
def hTab : List Int := [-8458139203682520985, -1950498447580522560, 7204814214171964562, -4734289103435588629, 1773351652666409796,
  -3119722376306286570, -5164621852614943976, 8389048192121911274, -3550055125485641917, -1440771752368011620,
  -6333845781340707986, 173794974761290439, 4685526799349444076, 6794810172467074373, 1901736143494378007,
  8409376899596376432, 3516302870623680066, -8422800446983873125, 2248468952609198383, 8756109708711196808,
  3863035679738500442, 5972319052856130739, 1079245023883434373, 7586885779985432798, -6348126469135965181,
  159514286966033244, -9131917124991031250, -2624276368889032825, 3883364387212965600, -1009709641759730766,
  -3054609118068388172, 3453031638033610253, -5838399773923454241, 669240982178544184, -4223833046794152182,
  2283807709307846243]
theorem hp2_tab : ∀ i j : Fin 6, hp2 i.1 j.1 = hTab.getD (6 * i.1 + j.1) 0 := by decide +kernel
theorem hTab_inj : ∀ i j k l : Fin 6, hTab.getD (6 * i.1 + j.1) 0 = hTab.getD (6 * k.1 + l.1) 0 → i = k ∧ j = l := by decide +kernel
theorem hp2_inj (i j k l : Fin 6) (h : hp2 i.1 j.1 = hp2 k.1 l.1) : i = k ∧ j = l := hTab_inj i j k l (by rw [← hp2_tab, ← hp2_tab, h])
theorem tkh (P : Program) (w : World) (p : Nat × Nat) : tupleKeyHash (mixKind P w) (keyP p) = hp2 p.1 p.2 :=
  congrArg (fun l => reduceHash (Builtin.Tuple.tupleHashOf l)) (show (keyP p).map (mixKind P w).hash = [hashInt (p.1 : Nat), hashInt (p.2 : Nat)] from rfl)
def HNd' (P : Program) (w : World) (ks : List (List Key)) : Prop := (ks.map (tupleKeyHash (mixKind P w))).Nodup
theorem hnd_of {P : Program} {w : World} {ks : List (Nat × Nat)} (h : ks.Nodup) (hl : ∀ k ∈ ks, k.1 < 6 ∧ k.2 < 6) : HNd' P w (ks.map keyP) := by
  unfold HNd'
  refine List.pairwise_map.mpr (List.pairwise_map.mpr (h.imp_of_mem fun {x y} hx hy ne e => ne ?_))
  rw [tkh, tkh] at e
  have := hp2_inj ⟨x.1, (hl x hx).1⟩ ⟨x.2, (hl x hx).2⟩ ⟨y.1, (hl y hy).1⟩ ⟨y.2, (hl y hy).2⟩ e
  exact Prod.ext (congrArg Fin.val this.1) (congrArg Fin.val this.2)
end Ty
end
section
/-! Reading, writing, making dicts. -/
namespace Ty
open PySem PySem.Spec PyProof.Rows L2
open Evl (Ex)
section
variable {ι : Type} {X : ι → Cx} {Ga Gb Gc Gd : List Sl} {e o k e1 e2 iter tg kx vx : Expr} {pos spos : Pos} {Pr : Program} {w : World} {K : PySem.W.Frag} {mg : Str → Option Value} {base : Heap} {j g : Nat} {d : Addr} {ks ls : List (Nat × Nat)} {f f2 : Nat × Nat → Pd} {P : Pd} {p : Nat × Nat} {n : Option (List Sl)} {R : Pd} {O : Option Mo} {rest : List Stmt}
theorem Fam.un1 (fam : Fam X Pr w K mg base j) (i : ι) : (X i).A.units + 1 < cLine := by have := (fam.room i).un; omega
/-- d[k], d known -/
theorem e_dget (fam : Fam X Pr w K mg base j) (p : Nat × Nat) (ho : TyE X Ga o (Dt ks f) Gb) (hk : TyE X Gb k (prP p) Gc) (hm : p ∈ ks) (hs : NoSl k := by exact fun _ _ => rfl) : TyE X Ga (.Subscript o k pos) (f p) Gc := fun q F σ G H I Q kk => by
  refine ⟨tDGet (uE X o) (uE X k), fun i => pe_dget (fam.un1 i) (uE_pe i) (uE_pe i) hs, ho q F σ G H I _ fun v G1 H1 t1 I1 p1 => hk q F σ G1 H1 I1 _ fun y G2 H2 t2 I2 p2 => ?_⟩
  obtain ⟨a, vs, rfl, ha, hp⟩ := p1
  obtain ⟨b, xs, rfl, hb, hx⟩ := p2
  match xs, hx with
  | [u1, u2], ⟨h1, h2, _⟩ =>
    cases h1; cases h2
    obtain ⟨z, hz, pz⟩ := kz_get hp hm
    have g := DGet.t (k := keyP p) (I2.sub _ _ (t2.k _ _ ha)) (I2.sub _ _ hb)
    rw [hz] at g
    exact ⟨a, z, rfl, g, kk z G2 H2 (t1.trans t2) I2 ((f p).mono t2.k pz)⟩
/-- d[k], d may change -/
theorem e_dgetG (fam : Fam X Pr w K mg base j) (p : Nat × Nat) (g : Nat) (ho : TyE X Ga o (Is (.ref d)) Gb) (hk : TyE X Gb k (prP p) Gc) (hg : Gc[g]? = some (.gh d (Dc ks f))) (hm : p ∈ ks) (hs : NoSl k := by exact fun _ _ => rfl) : TyE X Ga (.Subscript o k pos) (f p) Gc := fun q F σ G H I Q kk => by
  refine ⟨tDGet (uE X o) (uE X k), fun i => pe_dget (fam.un1 i) (uE_pe i) (uE_pe i) hs, ho q F σ G H I _ fun v G1 H1 t1 I1 p1 => hk q F σ G1 H1 I1 _ fun y G2 H2 t2 I2 p2 => ?_⟩
  obtain rfl : v = .ref d := p1
  obtain ⟨b, xs, rfl, hb, hx⟩ := p2
  obtain ⟨u, _, _, _, hd, vs, eu, hp⟩ := I2.getG hg
  subst eu
  match xs, hx with
  | [u1, u2], ⟨h1, h2, _⟩ =>
    cases h1; cases h2
    obtain ⟨z, hz, pz⟩ := kz_get hp hm
    have g := DGet.t (k := keyP p) hd (I2.sub _ _ hb)
    rw [hz] at g
    exact ⟨d, z, rfl, g, kk z G2 H2 (t1.trans t2) I2 pz⟩
theorem FS.chgG {b : Bs} {σ : L2.St} {G H : Hp} {M M' : Mo} {u : HO} (f : FS b Ga σ G H) (e : Ga[g]? = some (.gh d M)) (m : M'.m u G) : FS b (Ga.set g (.gh d M')) σ G (upd H d u) := by
  obtain ⟨o', nq, hF, hg, ho, _⟩ := f.si.getG e
  exact ⟨f.si.chgG e m, f.st.off hF hg nq⟩
/-- d[k] = e, k there before -/
theorem b_dputG (fam : Fam X Pr w K mg base j) (p : Nat × Nat) (g : Nat) (he : TyE X Ga e P Gb) (ho : TyE X Gb o (Is (.ref d)) Gc) (hk : TyE X Gc k (prP p) Gd) (hg : Gd[g]? = some (.gh d (Dc ks f))) (hm : p ∈ ks) (hz : ks.length < sizeLine) (hr : TyB X (Gd.set g (.gh d (Dc ks (setF f p P)))) rest n R O)
    (hs : ∀ i, swapsWith e (some (.Subscript o k spos)) pos.line (X i).env = pure false := by intro i; rfl) : TyB X Ga (.Assign [.Subscript o k spos] e pos :: rest) n R O :=
  b_cons (fun b σ G H D ff kn kr => by
    refine ⟨sDPut (uE X o) (uE X k) (uE X e), fun i => ps_dput (fam.un1 i) (uE_pe i) (uE_pe i) (uE_pe i) (hs i), he b.q (Fr b) σ G H ff.si _ fun v G1 H1 t1 I1 p1 => ho b.q (Fr b) σ G1 H1 I1 _ fun x G2 H2 t2 I2 p2 => hk b.q (Fr b) σ G2 H2 I2 _ fun y G3 H3 t3 I3 p3 => ?_⟩
    obtain rfl : x = .ref d := p2
    have f3 := ((ff.next t1 I1).next t2 I2).next t3 I3
    obtain ⟨bt, xs, rfl, hb, hx⟩ := p3
    obtain ⟨u, _, _, _, hd, vs, eu, hp⟩ := I3.getG hg
    subst eu
    match xs, hx with
    | [u1, u2], ⟨h1, h2, _⟩ =>
      cases h1; cases h2
      obtain ⟨vs', ev, hv'⟩ := kz_put hp hm (P.mono (Ex.trans t2.k t3.k) p1)
      have g' := DPut.t (v := v) (k := keyP p) hd (I3.sub _ _ hb) (by rw [kz_len hp.len2]; exact hz)
      rw [ev] at g'
      exact ⟨d, _, rfl, g', kn σ G3 _ (Ex.trans (Ex.trans t1.k t2.k) t3.k) (f3.chgG hg ⟨vs', rfl, hv'⟩)⟩) hr
/-- {**a, **b}: a new dict -/
theorem n_ds (h1 : TyE X Ga e1 (Dt ks f) Gb) (h2 : TyE X Gb e2 (Dt ls f) Gc) (hn : (ks ++ ls).Nodup) (hl : ∀ p ∈ ks ++ ls, p.1 < 6 ∧ p.2 < 6) (hz : (ks ++ ls).length ≤ 1000) : TyN (Ow.tDS (uE X e1) (uE X e2) (HNd' Pr w)) Ga (Dc (ks ++ ls) f) Gc := fun q F σ G H I Q kk p hp => by
  obtain ⟨I0, nq⟩ := I.apart hp
  have gp : G p = none := Evl.fresh_back I.sub hp
  have I1 := I0.off (o := .dT []) nq gp
  have t0 : Step q G H G (upd H p (.dT [])) := Step.newM I.sub hp
  rw [List.nodup_append] at hn
  rw [List.length_append] at hz
  have keep : ∀ {G1 H1 G2 H2 : Hp} {u : HO}, Step q G1 H1 G2 H2 → G1 p = none → H1 p = some u → G2 p = none ∧ H2 p = some u := fun {G1 H1 G2 H2 u} t g1 h1 => by
    refine ⟨?_, t.f p u nq h1⟩
    cases e : G2 p with
    | none => rfl
    | some z =>
      rcases t.n p z e with ⟨y, hy⟩ | hy
      · rw [g1] at hy; cases hy
      · rw [h1] at hy; cases hy
  refine h1 q _ σ G _ I1 _ fun x G1 H1 t1 I2 p1 => ?_
  obtain ⟨g1, hp1⟩ := keep t1 gp upd_same
  obtain ⟨a, vs, rfl, ha, hpa⟩ := p1
  have na : p ≠ a := fun z => by rw [← z, g1] at ha; cases ha
  refine ⟨a, kz ks vs, rfl, I2.sub _ _ ha, na, hp1, by rw [kz_keys hpa.len2]; exact hnd_of hn.1 fun z hz => hl z (List.mem_append_left _ hz), by rw [kz_len hpa.len2]; omega, ?_⟩
  have em : Ow.mergeT [] (kz ks vs) = kz ks vs := kz_merge (ks := []) (vs := []) (ls := ks) (ws := vs) rfl hpa.len2 hn.1 (fun _ _ h => List.not_mem_nil h)
  rw [em]
  have I3 := I2.off (o := .dT (kz ks vs)) nq g1
  refine h2 q _ σ G1 _ I3 _ fun y G2 H2 t2 I4 p2 => ?_
  obtain ⟨g2, hp2⟩ := keep t2 g1 upd_same
  obtain ⟨b, ws, rfl, hb, hpb⟩ := p2
  have nb : p ≠ b := fun z => by rw [← z, g2] at hb; cases hb
  have em2 : Ow.mergeT (kz ks vs) (kz ls ws) = kz (ks ++ ls) (vs ++ ws) := kz_merge hpa.len2 hpb.len2 hn.2.1 fun z hz hz2 => hn.2.2 z hz2 z hz rfl
  refine ⟨b, kz ls ws, kz ks vs, rfl, I4.sub _ _ hb, nb, hp2, by rw [kz_len hpa.len2]; omega, by rw [kz_keys hpb.len2]; exact hnd_of hn.2.1 fun z hz => hl z (List.mem_append_right _ hz), by rw [kz_len hpb.len2]; omega, ?_⟩
  rw [em2]
  have s1 : Step q G H G1 (upd H1 p (.dT (kz ks vs))) := (t0.trans t1).off hp g1 nq
  have s2 : Step q G H G2 (upd H2 p (.dT (kz (ks ++ ls) (vs ++ ws)))) := (s1.trans t2).off hp g2 nq
  refine kk p _ _ _ s2 (I4.off nq g2) nq hp g2 upd_same ⟨_, rfl, ?_⟩
  rw [List.map_append]
  exact (hpa.mono t2.k).append hpb
theorem mk_ds (fam : Fam X Pr w K mg base j) (i : ι) : PE (X i) (.Dict [none, none] [e1, e2] pos) (Ow.tDS (uE X e1) (uE X e2) (HNd' Pr w)) := by
  have := Ow.pe_ds (X := X i) (pos := pos) (by have := (fam.room i).un; omega) (uE_pe (X := X) (e := e1) i) (uE_pe (X := X) (e := e2) i)
  unfold Ow.HNd at this
  rw [fam.prog i, fam.w i] at this
  exact this
end
end Ty
end
section
/-! Dict comprehensions. -/
namespace Ty
open PySem PySem.Spec PyProof.Rows L2
open Evl (Ex)
section
variable {ι : Type} {X : ι → Cx} {Ga Gb Gc Gd : List Sl} {e iter tg kx vx : Expr} {scope : Scope} {pos : Pos} {vs ks : List Nat} {α : Type} {ds : List α} {Bd Be Bf : α → List Sl} {it : α → Pd} {f : Nat × Nat → Pd} {key : α → Nat × Nat}
structure WkT (X : ι → Cx) (scope : Scope) (J : It) (tg : Expr) (vs ks : List Nat) (Gb : List Sl) (ds : List α) (Bd : α → List Sl) (G0 : Hp) : Prop where
  go : ∀ (k : Nat) (q : Option Addr) (F : Addr → Prop) (σ : L2.St) (G H : Hp), k < ds.length → Ex G0 G → SI q F (wipeG Gb vs) σ G H → J.go k H
  stop : ∀ (q : Option Addr) (F : Addr → Prop) (σ : L2.St) (G H : Hp), Ex G0 G → SI q F (wipeG Gb vs) σ G H → J.stop ds.length H
  yld : ∀ (k : Nat) (d : α) (q : Option Addr) (F : Addr → Prop) (σ : L2.St) (G H : Hp) (x : V) (H' : Hp), ds[k]? = some d → Ex G0 G → SI q F (wipeG Gb vs) σ G H → J.yld k H x H' → ∀ R : L2.St → Hp → Prop,
    (∀ σ' G' H'', Step q G H G' H'' → Off ks σ σ' → SI q F (Bd d) σ' G' H'' → R σ' H'') → uG (blkX X scope) tg x σ H' R
def TyIW (X : ι → Cx) (scope : Scope) (Ga : List Sl) (tg : Expr) (wi : TI) (vs ks : List Nat) (Gb : List Sl) (ds : List α) (Bd : α → List Sl) : Prop :=
  ∀ (q : Option Addr) (F : Addr → Prop) (σ : L2.St) (G H : Hp), SI q F Ga σ G H → ∀ R : It → Hp → Prop,
    (∀ J G' H', Step q G H G' H' → SI q F Gb σ G' H' → WkT X scope J tg vs ks Gb ds Bd G' → R J H') → wi σ H R
theorem iw_of (hi : TyI X Ga tg iter (ds.map it) Gb) (hg : ∀ d ∈ ds, TyG (blkX X scope) (wipeG Gb vs) (it d) tg ks (Bd d)) : TyIW X scope Ga tg (uI X tg iter) vs ks Gb ds Bd := fun q F σ G H I R k =>
  hi q F σ G H I R fun J G' H' t I' wt => k J G' H' t I' ⟨fun k q F σ G H hk e I => wt.go k G H e I.sub (by rw [List.length_map]; exact hk), fun q F σ G H e I => by have := wt.stop G H e I.sub; rwa [List.length_map] at this,
    fun k d q F σ G H x H' hd e I y R kk => by
      obtain ⟨G3, t3, p3⟩ := wt.yld k (it d) G H x H' e I.sub (by rw [List.getElem?_map, hd]; rfl) y
      exact hg d (List.mem_of_getElem? hd) q F σ G3 H' x (I.pure t3) p3 _ fun σ4 G4 H4 t4 o4 I4 => kk σ4 G4 H4 (t3.any.trans t4) o4 I4⟩
theorem n_dcT {wi : TI} (hi : TyIW X scope Ga tg wi vs ks Gb ds Bd) (hz : ds.length ≤ sizeLine) (hO : ∀ i M, Gb[i]? = some (Sl.own M) → i ∉ vs) (hks : ∀ k ∈ ks, k ∈ vs) (hkey : ∀ d ∈ ds, TyE (blkX X scope) (Bd d) kx (prP (key d)) (Be d)) (hv : ∀ d ∈ ds, TyE (blkX X scope) (Be d) vx (f (key d)) (Bf d))
    (hl : ∀ d ∈ ds, GaLe (wipeG (Bf d) vs) (wipeG Gb vs)) (hnd : (ds.map key).Nodup) : TyN (Ow.tDcT wi (uG (blkX X scope) tg) tYes (uE (blkX X scope) kx) (uE (blkX X scope) vx) vs) Ga (Dc (ds.map key) f) Gb := by
  intro q F σ G H I Q k
  refine hi q F σ G H I _ fun J G1 H1 t1 I1 wt D hD => ?_
  obtain ⟨I1a, nq⟩ := I1.apart hD
  have gD : G1 D = none := Evl.fresh_back I1.sub hD
  have h0D : H D = none := by
    cases e : H D with
    | none => rfl
    | some u => rw [t1.f D u nq e] at hD; cases hD
  refine ⟨fun i m H' => m = ds.length - i ∧ i ≤ ds.length ∧ ∃ G' ws, Step q G1 H1 G' H' ∧ SI q (fun a => F a ∧ a ≠ D) (wipeG Gb vs) (L2.wipe σ vs) G' H' ∧ H' D = some (.dT (kz ((ds.take i).map key) ws)) ∧ G' D = none ∧ AllP (((ds.take i).map key).map f) ws G', ⟨ds.length, ?_⟩, ?_⟩
  · exact ⟨by simp, Nat.zero_le _, G1, [], (Step.refl I1.sub).off hD gD nq, (I1a.off nq gD).wipe vs, upd_same, gD, by rw [List.take_zero]; trivial⟩
  rintro i m H2 ⟨rfl, hle, G2, ws, t2, I2, hd, gd, hws⟩
  by_cases hlt : i < ds.length
  · refine .inr ⟨wt.go i q _ _ G2 H2 hlt t2.k I2, fun H' => i + 1 ≤ ds.length ∧ ∃ G' ws, Step q G1 H1 G' H' ∧ SI q (fun a => F a ∧ a ≠ D) (wipeG Gb vs) (L2.wipe σ vs) G' H' ∧ H' D = some (.dT (kz ((ds.take (i + 1)).map key) ws)) ∧ G' D = none ∧ AllP (((ds.take (i + 1)).map key).map f) ws G',
      fun H' ⟨h1, h2⟩ => ⟨ds.length - (i + 1), by omega, rfl, h1, h2⟩, fun x H3 y => ?_⟩
    obtain ⟨d, hdi⟩ : ∃ d, ds[i]? = some d := ⟨ds[i], List.getElem?_eq_getElem hlt⟩
    have hdm := List.mem_of_getElem? hdi
    refine wt.yld i d q _ _ G2 H2 x H3 hdi t2.k I2 y _ fun σ4 G4 H4 t4 o4 I4 => ?_
    have ew : L2.wipe σ4 vs = L2.wipe σ vs := (o4.wipe hks).trans (wipe_wipe σ vs)
    refine ⟨ew, tt_yes q _ σ4 G4 H4 I4 _ fun G5 H5 t5 I5 => ?_⟩
    rw [if_pos rfl]
    refine hkey d hdm q _ σ4 G5 H5 I5 _ fun u G6 H6 t6 I6 p6 => hv d hdm q _ σ4 G6 H6 I6 _ fun v G7 H7 t7 I7 p7 => ?_
    have t27 : Step q G2 H2 G7 H7 := ((t4.trans t5).trans t6).trans t7
    have hd7 : H7 D = some (.dT (kz ((ds.take i).map key) ws)) := t27.f D _ nq hd
    have gd7 : G7 D = none := by
      cases e : G7 D with
      | none => rfl
      | some u =>
        rcases t27.n D u e with ⟨u', e'⟩ | e'
        · rw [gd] at e'; cases e'
        · rw [hd] at e'; cases e'
    obtain ⟨b, xs, rfl, hb, hx⟩ := p6
    have htk : (ds.take i).length = i := by rw [List.length_take]; omega
    have hwl : ws.length = i := by rw [hws.len2, List.length_map, htk]
    have e1 : (ds.take (i + 1)).map key = (ds.take i).map key ++ [key d] := by rw [take_more hdi, List.map_append]; rfl
    have hnew : key d ∉ (ds.take i).map key := fun hm => by
      have hnd' := hnd
      rw [← List.take_append_drop (i + 1) ds, List.map_append, e1, List.nodup_append] at hnd'
      have := hnd'.1
      rw [List.nodup_append] at this
      exact this.2.2 _ hm _ (List.mem_singleton.mpr rfl) rfl
    match xs, hx with
    | [u1, u2], ⟨h1, h2, _⟩ =>
      cases h1; cases h2
      refine ⟨kz ((ds.take i).map key) ws, keyP (key d), b, rfl, I7.sub _ _ (t7.k _ _ hb), hd7, ?_, hlt, G7, ws ++ [v], (t2.trans t27).off hD gd7 nq, ?_, ?_, gd7, ?_⟩
      · rw [kz_len hws.len2, List.length_map, htk]; omega
      · have I8 := (I7.wipe vs).weak (hl d hdm)
        rw [ew] at I8
        exact I8.off nq gd7
      · rw [kz_new hws.len2 hnew, e1]; exact upd_same
      · rw [e1, List.map_append]
        exact (hws.mono t27.k).append ⟨p7, trivial⟩
  · have e : i = ds.length := by omega
    subst e
    rw [List.take_length] at hd hws
    exact .inl ⟨wt.stop q _ _ G2 H2 t2.k I2, k D _ G2 H2 (t1.trans t2) (I1a.back t2 I2 (OwnUpd.refl hO)) nq h0D gd hd ⟨ws, rfl, hws⟩⟩
theorem mk_dcT {own : List (Str × Nat)} {Pr : Program} {w : World} {K : PySem.W.Frag} {mg : Str → Option Value} {base : Heap} {j : Nat} (fam : Fam X Pr w K mg base j) (hN : ∀ i, (X i).N.Nodup) (ok : ∀ i, BlkOk (X i).N (X i).env.scope scope own) (hs : ∀ i x, foldedSetIterable iter (X i).env x = pure x := by intro _ _; rfl) (i : ι) :
    PE (X i) (.DictComp kx vx [⟨tg, iter, [], 0⟩] scope pos) (Ow.tDcT (uI X tg iter) (uG (blkX X scope) tg) tYes (uE (blkX X scope) kx) (uE (blkX X scope) vx) (own.map (·.2))) :=
  Ow.pe_dcT (by have := fam.un1 i; omega) (fam.calm i) (hN i) (uI_pi i) (ok i) (fun s H C cl fp => uG_pg (X := blkX X scope) (i, s, H, C, cl, fp)) (fun _ _ _ _ _ => pts_nil) (fun s H C cl fp => uE_pe (X := blkX X scope) (i, s, H, C, cl, fp)) (fun s H C cl fp => uE_pe (X := blkX X scope) (i, s, H, C, cl, fp)) (hs i)
/-- a dict that is walked stands still -/
def FzM (od : Obj) (u : HO) : Mo := ⟨fun o _ => o = .frz od u, fun _ h => h⟩
theorem Step.unlock {q : Option Addr} {G H G' H' : Hp} {d : Addr} {u fz : HO} (t : Step q G (upd H d fz) G' H') (hu : H d = some u) (hq : q ≠ some d) (hg : G' d = none) : Step q G H G' (upd H' d u) := by
  refine ⟨t.k, fun a o e => ?_, fun a o nq e => ?_, fun a o e => ?_, fun a e ⟨o, ho⟩ => ?_⟩
  · rw [upd_ne (fun z => by rw [z, hg] at e; cases e)]; exact t.s a o e
  · by_cases c : a = d
    · subst c; rw [hu] at e; cases e; exact upd_same
    · rw [upd_ne c]; exact t.f a o nq ((upd_ne c).trans e)
  · rcases t.n a o e with z | z
    · exact .inl z
    · right
      by_cases c : a = d
      · subst c; rw [upd_same] at z; cases z
      · rwa [upd_ne c] at z
  · have c : a ≠ d := fun z => hq (by rw [e, z])
    obtain ⟨o', ho'⟩ := t.r a e ⟨o, (upd_ne c).trans ho⟩
    exact ⟨o', (upd_ne c).trans ho'⟩
variable {o : Expr} {d : Addr} {g a b : Nat} {ls : List (Nat × Nat)} {f0 : Nat × Nat → Pd} {K : PySem.W.Frag}
/-- {.. for x, y in d}: d may change, later -/
theorem n_dcL (g a b : Nat) (hab : a ≠ b) (hg : Ga[g]? = some (.gh d (Dc ls f0))) (hga : g ≠ a ∧ g ≠ b) (ho : ∀ M, TyE X (Ga.set g (.gh d M)) o (Is (.ref d)) (Ga.set g (.gh d M))) (hK : ∀ i, (X i).K = K) (hz : ls.length ≤ sizeLine) (hO : ∀ i M, Ga[i]? = some (Sl.own M) → i ≠ a ∧ i ≠ b)
    (hT : ∀ l, PG (blkX X scope l) tg (gTup (X l.1).K 2 (gCons (gName a) (gCons (gName b) gNil)))) (hnd : ls.Nodup)
    (hkey : ∀ M, ∀ p ∈ ls, TyE (blkX X scope) (((wipeG (Ga.set g (.gh d M)) [a, b]).set a (.is (IsI (p.1 : Nat)))).set b (.is (IsI (p.2 : Nat)))) kx (prP p) (((wipeG (Ga.set g (.gh d M)) [a, b]).set a (.is (IsI (p.1 : Nat)))).set b (.is (IsI (p.2 : Nat)))))
    (hv : ∀ M, ∀ p ∈ ls, TyE (blkX X scope) (((wipeG (Ga.set g (.gh d M)) [a, b]).set a (.is (IsI (p.1 : Nat)))).set b (.is (IsI (p.2 : Nat)))) vx (f p) (((wipeG (Ga.set g (.gh d M)) [a, b]).set a (.is (IsI (p.1 : Nat)))).set b (.is (IsI (p.2 : Nat))))) :
    TyN (tLockE (Ow.tDcT (iKeys (uE X o)) (uG (blkX X scope) tg) tYes (uE (blkX X scope) kx) (uE (blkX X scope) vx) [a, b])) Ga (Dc ls f) Ga := by
  intro q F σ G H I Q kk
  obtain ⟨u, nq, hF, hgd, hud, vs0, eu, hp0⟩ := I.getG hg
  subst eu
  refine ⟨d, _, hud, trivial, fun od => ?_⟩
  have I1 : SI q F (Ga.set g (.gh d (FzM od (.dT (kz ls vs0))))) σ G (upd H d (.frz od (.dT (kz ls vs0)))) := I.chgG hg rfl
  have hgl : g < Ga.length := (List.getElem?_eq_some_iff.mp hg).1
  have hg1 : (Ga.set g (.gh d (FzM od (.dT (kz ls vs0)))))[g]? = some (.gh d (FzM od (.dT (kz ls vs0)))) := List.getElem?_set_self hgl
  have hg2 : (wipeG (Ga.set g (.gh d (FzM od (.dT (kz ls vs0))))) [a, b])[g]? = some (.gh d (FzM od (.dT (kz ls vs0)))) := by
    rw [wipeG_out (by simp [hga.1, hga.2])]; exact hg1
  have e1 : ∀ s t : Sl, wipeG (((wipeG (Ga.set g (.gh d (FzM od (.dT (kz ls vs0))))) [a, b]).set a s).set b t) [a, b] = wipeG (Ga.set g (.gh d (FzM od (.dT (kz ls vs0))))) [a, b] := fun s t => by
    generalize Ga.set g (.gh d (FzM od (.dT (kz ls vs0)))) = Gx
    show (((((Gx.set b .any).set a .any).set a s).set b t).set b .any).set a .any = (Gx.set b .any).set a .any
    rw [List.set_set, List.set_set, List.set_comm .any s (Ne.symm hab), List.set_set, List.set_comm s .any hab, List.set_set]
  have main := n_dcT (X := X) (scope := scope) (kx := kx) (vx := vx) (f := f) (ds := ls) (key := fun p => p) (vs := [a, b]) (ks := [a, b]) (Ga := Ga.set g (.gh d (FzM od (.dT (kz ls vs0))))) (Gb := Ga.set g (.gh d (FzM od (.dT (kz ls vs0))))) (wi := iKeys (uE X o)) (tg := tg)
    (Bd := fun p => ((wipeG (Ga.set g (.gh d (FzM od (.dT (kz ls vs0))))) [a, b]).set a (.is (IsI (p.1 : Nat)))).set b (.is (IsI (p.2 : Nat)))) ?_ hz (fun i M h => ?_) (fun _ h => h) (hkey _) (hv _) (fun p _ => by rw [e1]; exact GaLe.refl _) (by rw [List.map_id']; exact hnd)
  · rw [List.map_id'] at main
    refine main q F σ G _ I1 _ fun p u2 G2 H2 t2 I2 nq2 hp hgp hup mm => ?_
    obtain ⟨u3, _, _, hgd2, hud2, eu3⟩ := I2.getG hg1
    have eu3 : u3 = .frz od (.dT (kz ls vs0)) := eu3
    subst eu3
    have npd : p ≠ d := fun z => by rw [z, upd_same] at hp; cases hp
    refine ⟨hud2, kk p u2 G2 _ (t2.unlock hud nq hgd2) ?_ nq2 ?_ hgp ((upd_ne npd).trans hup) mm⟩
    · have I3 := I2.chgG (M' := Dc ls f0) (o := .dT (kz ls vs0)) hg1 ⟨vs0, rfl, hp0.mono t2.k⟩
      rw [List.set_set] at I3
      have e2 : Ga.set g (.gh d (Dc ls f0)) = Ga := by
        apply List.ext_getElem?
        intro i
        by_cases c : g = i
        · subst c; rw [List.getElem?_set_self hgl, hg]
        · rw [List.getElem?_set_ne c]
      rw [e2] at I3
      exact I3
    · rwa [upd_ne npd] at hp
  · intro q F σ G H I R k
    refine ho _ q F σ G H I _ fun v G1 H1 t1 I1 p1 => ?_
    obtain rfl : v = .ref d := p1
    obtain ⟨u3, _, _, _, hud2, eu3⟩ := I1.getG hg1
    have eu3 : u3 = .frz od (.dT (kz ls vs0)) := eu3
    subst eu3
    refine ⟨d, od, rfl, .inr ⟨_, hud2, k _ G1 H1 t1 I1 ⟨fun k q F σ G H hk e I => ?_, fun q F σ G H e I => ?_, fun k p q F σ G H x H' hp e I y R kk => ?_⟩⟩⟩
    · obtain ⟨u3, _, _, _, hx, eu3⟩ := I.getG hg2
      have eu3 : u3 = .frz od (.dT (kz ls vs0)) := eu3
      subst eu3
      exact ⟨hx, by rw [kz_len hp0.len2]; exact hk⟩
    · obtain ⟨u3, _, _, _, hx, eu3⟩ := I.getG hg2
      have eu3 : u3 = .frz od (.dT (kz ls vs0)) := eu3
      subst eu3
      exact ⟨hx, by rw [kz_len hp0.len2]; exact Nat.le_refl _⟩
    · obtain ⟨eH, kq, v, tq, hkv, rfl, htq⟩ := y
      subst eH
      have ek : kq = keyP p := by
        have h1 : ((kz ls vs0).map (·.1))[k]? = some kq := by rw [List.getElem?_map, hkv]; rfl
        rw [kz_keys hp0.len2, List.getElem?_map, hp] at h1
        cases h1; rfl
      subst ek
      refine ⟨gTup K 2 (gCons (gName a) (gCons (gName b) gNil)), fun l => by rw [← hK l.1]; exact hT l, tq, [.int (p.1 : Nat), .int (p.2 : Nat)], rfl, SqT.of htq, rfl, _, _, rfl, _, _, rfl, rfl, ?_⟩
      refine kk _ G _ (Step.refl I.sub) ⟨by rw [List.length_set, List.length_set], fun l hl => ?_⟩ ((I.put (P := IsI (p.1 : Nat)) rfl).put (P := IsI (p.2 : Nat)) rfl)
      rw [List.getElem?_set_ne (fun e => hl (by rw [← e]; simp)), List.getElem?_set_ne (fun e => hl (by rw [← e]; simp))]
  · have : Ga[i]? = some (Sl.own M) := by
      by_cases c : g = i
      · subst c; rw [hg1] at h; cases h
      · rwa [List.getElem?_set_ne c] at h
    have := hO i M this
    simp [this.1, this.2]
theorem mk_dcL {own : List (Str × Nat)} {Pr : Program} {w : World} {mg : Str → Option Value} {base : Heap} {j : Nat} (fam : Fam X Pr w K mg base j) (hN : ∀ i, (X i).N.Nodup) (ok : ∀ i, BlkOk (X i).N (X i).env.scope scope own) (hs : ∀ i x, foldedSetIterable o (X i).env x = pure x := by intro _ _; rfl) (i : ι) :
    PE (X i) (.DictComp kx vx [⟨tg, o, [], 0⟩] scope pos) (tLockE (Ow.tDcT (iKeys (uE X o)) (uG (blkX X scope) tg) tYes (uE (blkX X scope) kx) (uE (blkX X scope) vx) (own.map (·.2)))) :=
  pe_lock (Ow.pe_dcT (by have := fam.un1 i; omega) (fam.calm i) (hN i) (pi_keys (uE_pe i)) (ok i) (fun s H C cl fp => uG_pg (X := blkX X scope) (i, s, H, C, cl, fp)) (fun _ _ _ _ _ => pts_nil) (fun s H C cl fp => uE_pe (X := blkX X scope) (i, s, H, C, cl, fp)) (fun s H C cl fp => uE_pe (X := blkX X scope) (i, s, H, C, cl, fp)) (hs i))
end
end Ty
end
section
/-! Fields that hold changing objects; methods of a changing object; index. -/
namespace Ty
open PySem PySem.Spec PyProof.Rows L2
open Evl (Ex)
section
variable {ι : Type} {X : ι → Cx} {Ga Gb Gc Gd : List Sl} {e o : Expr} {es : List Expr} {P : Pd} {Ps : List Pd} {n : Option (List Sl)} {R : Pd} {O : Option Mo} {rest sts : List Stmt} {pos p apos cpos : Pos} {M M' : Mo} {s t : Sl} {i g : Nat} {x m y : Str} {K : PySem.W.Frag} {C : Addr} {Fs : List (Str × Pd)} {f : Str}
/-- o.f = e: a new attribute, a new object that will change -/
theorem b_fldN {fpos : Pos} {te : TE} (g : Nat) (hK : ∀ l, (X l).K = K) (c : Cls K C) (na : NoAttr K C f) (hv : ∀ j, PE (X j) (.Name x p) (tVar i)) (mk : ∀ l, PE (X l) e te) (ha : TyN te Ga M Gb) (hi : Gb[i]? = some (.own (Ob C Fs))) (hf : (Fs.map Prod.fst).all (fun y => !(f == y)) = true) (hz : Fs.length < 1000) (hgi : g ≠ i)
    (hr : ∀ d : Addr, TyB X ((Gb.set g (.gh d M)).set i (.own (Ob C (Fs ++ [(f, Is (.ref d))])))) rest n R O)
    (hs : ∀ l, swapsWith e (some (.Attribute (.Name x p) f fpos)) pos.line (X l).env = pure false := by intro i; rfl) : TyB X Ga (.Assign [.Attribute (.Name x p) f fpos] e pos :: rest) n R O := fun b σ G H D ff kn kr => by
  refine ⟨tSeq (sFld K (tVar i) te f) (uB X rest), fun l => pss_cons (by rw [← hK l]; exact ps_fld (hv l) (mk l) (hs l)) (uB_ps l), ?_⟩
  refine ha b.q (Fr b) σ G H ff.si _ fun d o G1 H1 t1 I1 nq h0 hg ho mm => ?_
  have hF : b.H0 d = none := by
    cases e : b.H0 d with
    | none => rfl
    | some u => rw [ff.st.f d u nq e] at h0; cases h0
  have I2 := I1.putG (i := g) nq hF hg ho mm
  have f1 : FS b (Gb.set g (.gh d M)) σ G1 H1 := ff.next t1 I2
  have hi2 : (Gb.set g (.gh d M))[i]? = some (.own (Ob C Fs)) := by rw [List.getElem?_set_ne hgi]; exact hi
  obtain ⟨a, o2, ea, hqa, ga, ha2, dx, vs, eo, hp⟩ := I2.getO hi2
  subst eo
  have hl := hp.length
  rw [List.length_map] at hl
  refine ⟨.ref a, ea, a, C, dx, _, rfl, ha2, c, na, ?_, ?_⟩
  · rw [List.length_zip, List.length_map, hl, Nat.min_self]; exact hz
  · refine hr d b σ G1 _ D (f1.chg .own hi2 ea ⟨dx, vs ++ [.ref d], ?_, ?_⟩) (fun σ2 G2 H2 e2 f2 => kn σ2 G2 H2 (Ex.trans t1.k e2) f2) kr
    · rw [putF_new (by rw [hl, List.length_map]) hf, List.map_append]; rfl
    · rw [List.map_append]; exact hp.append ⟨rfl, trivial⟩
/-- the dict in a field is not changed any more -/
theorem b_freezeF {ks : List (Nat × Nat)} {fd : Nat × Nat → Pd} {d : Addr} {k : Nat} (hi : Ga[i]? = some (.own (Ob C Fs))) (hg : Ga[g]? = some (.gh d (Dc ks fd))) (hk : Fs[k]? = some (f, Is (.ref d))) (h : TyB X ((Ga.set g .any).set i (.own (Ob C (Fs.set k (f, Dt ks fd))))) sts n R O) : TyB X Ga sts n R O := fun b σ G H D ff kn kr => by
  obtain ⟨u, nq, hF, hgd, hud, vs, eu, hp⟩ := ff.si.getG hg
  subst eu
  have ex : Ex G (upd G d (.dT (kz ks vs))) := Evl.Ex.new hgd
  have I1 := ff.si.freezeG hg hud
  have f1 : FS b (Ga.set g .any) σ (upd G d (.dT (kz ks vs))) H := ⟨I1, ff.st.know hF hgd hud⟩
  have ngi : g ≠ i := fun z => by subst z; rw [hi] at hg; cases hg
  have hi2 : (Ga.set g .any)[i]? = some (.own (Ob C Fs)) := by rw [List.getElem?_set_ne ngi]; exact hi
  obtain ⟨a, o2, ea, hqa, ga, ha2, dx, ws, eo, hw⟩ := I1.getO hi2
  subst eo
  have e1 : (Fs.set k (f, Dt ks fd)).map Prod.fst = Fs.map Prod.fst := by
    rw [List.map_set]
    apply List.ext_getElem?
    intro j
    by_cases c : k = j
    · subst c
      rw [List.getElem?_set_self (by rw [List.length_map]; exact (List.getElem?_eq_some_iff.mp hk).1), List.getElem?_map, hk]; rfl
    · rw [List.getElem?_set_ne c]
  have f2 := f1.chg (M := Ob C Fs) (M' := Ob C (Fs.set k (f, Dt ks fd))) (o := .ins C dx ((Fs.map Prod.fst).zip ws)) .own hi2 ea ⟨dx, ws, by rw [e1], by
    rw [List.map_set]
    obtain ⟨v, hv, pv⟩ := hw.get (i := k) (P := Is (.ref d)) (by rw [List.getElem?_map, hk]; rfl)
    obtain rfl : v = .ref d := pv
    have q : (Dt ks fd).p (.ref d) (upd G d (.dT (kz ks vs))) := ⟨d, vs, rfl, upd_same, hp.mono ex⟩
    have e2 : ws.set k (.ref d) = ws := by
      apply List.ext_getElem?
      intro j
      by_cases c : k = j
      · subst c; rw [List.getElem?_set_self (List.getElem?_eq_some_iff.mp hv).1, hv]
      · rw [List.getElem?_set_ne c]
    have := AllP.set q k hw
    rwa [e2] at this⟩
  have e3 : upd H a (.ins C dx ((Fs.map Prod.fst).zip ws)) = H := by
    funext z
    by_cases c : z = a
    · subst c; rw [upd_same, ha2]
    · rw [upd_ne c]
  rw [e3] at f2
  exact h b σ _ H D f2 (fun σ2 G2 H2 e2 f2 => kn σ2 G2 H2 (Ex.trans ex e2) f2) kr
theorem b_moveG {j : Nat} {d : Addr} (hg : Ga[g]? = some (.gh d M)) (h : TyB X ((Ga.set g .any).set j (.gh d M)) sts n R O) : TyB X Ga sts n R O := fun b σ G H D ff kn kr => h b σ G H D ⟨ff.si.moveG hg, ff.st⟩ kn kr
section
variable {Pr : Program} {w : World} {mg : Str → Option Value} {base : Heap} {j k : Nat} {D : Type} {A : D → List Pd} {S : D → Prop} {Rd : D → Pd} {Md Md' : D → Mo}
/-- o.m(e, ..), o changes -/
theorem e_methO {pl : ι → Sem Bool} {py : Pos} (fam : Fam X Pr w K mg base j) (F : Mf Pr w K mg base k C m (SpO A S Rd Md Md')) (d : D) (hv : ∀ l, PE (X l) (.Name y py) (tVar i)) (h0 : Ga[i]? = some (.own (Ob C Fs))) (hn : (Fs.map Prod.fst).all (fun y => !(m == y)) = true) (ha : TyA X Ga (e :: es) (A d) Gb) (hi : Gb[i]? = some (.own (Md d))) (hs : S d) (hk : k ≤ j := by decide)
    (hst : ∀ i, starEach (e :: es) (X i).env = (false, eval e (X i).env) :: starEach es (X i).env := by intro i; rfl) (hpl : ∀ i, (backTo pos (starEach es (X i).env)).any (·.1) = false := by intro i; rfl)
    (ht : ∀ i, eval (.Call (.Attribute (.Name y py) m apos) (e :: es) [] pos) (X i).env = (do
      let ov ← eval (.Name y py) (X i).env
      standAt apos.atName
      let (f, first) ← holding [ov] (getMethod ov m (pl i))
      callWith pos f first (backTo pos (starEach (e :: es) (X i).env)) (backToKw pos (keywordEach [] (X i).env))) := by intro i; rfl) :
    TyE X Ga (.Call (.Attribute (.Name y py) m apos) (e :: es) [] pos) (Rd d) (Gb.set i (.own (Md' d))) := fun q F' σ G H I Q kk => by
  obtain ⟨fa, Fn, c, hm⟩ := F.ex
  refine ⟨tMethR C m (SpO A S Rd Md Md') E0 (tVar i) (uA X (e :: es)), fun l => pe_methR (pl := pl l) (hv l) (by rw [fam.K l]; exact c) (by rw [fam.K l]; exact hm) (by rw [fam.prog l, fam.w l, fam.K l, fam.mg l, fam.base l]; exact Fn) ((fam.room l).mono hk) pass0 (uA_pa l) (hst l) (hpl l) (ht l), ?_⟩
  obtain ⟨a, o0, ea, hq, g0, ho0, dx, vs, eo, hp⟩ := I.getO h0
  subst eo
  refine ⟨.ref a, ea, a, dx, _, rfl, ho0, lookup_no hn, ha q F' σ G H I _ fun ws G1 H1 t1 I1 p1 => ?_⟩
  obtain ⟨a', o1, ea', hq', g1, ho1, hm1⟩ := I1.getO hi
  rw [ea] at ea'
  cases ea'
  refine ⟨d, G1, a, ws, o1, rfl, hs, I1.sub, g1, ho1, hm1, p1, fun v G2 H2 o2 t2 g2 ho2 hm2 r => ?_⟩
  obtain ⟨t3, I3⟩ := I1.own_call hi ea t2 g2 ho2 hm2
  exact kk v G2 H2 (t1.trans t3) I3 r
end
theorem TyA.eq {Qs : List Pd} (h : TyA X Ga es Ps Gb) (e : Ps = Qs) : TyA X Ga es Qs Gb := e ▸ h
/-- l.index(e) -/
theorem e_index {ns : List Int} {z : Int} (j : Nat) (hK : ∀ l, (X l).K = K) (ho : TyE X Ga o (Ls (ns.map IsI)) Gb) (he : TyE X Gb e (IsI z) Gc) (hj : ns[j]? = some z) (hf : ∀ m, m < j → ns[m]? ≠ some z)
    (hst : ∀ l, starEach [e] (X l).env = (false, eval e (X l).env) :: starEach [] (X l).env := by intro i; rfl)
    (mk : ∀ (l : ι) (to : TE) (ta : TA), PE (X l) o to → PA (X l) [e] ta → PE (X l) (.Call (.Attribute o "index" apos) [e] [] cpos) (tBM (X l).K "list" (rIndex (X l).K) to ta) := by exact fun _ _ _ ho ha => pe_bm PySem.F.plainAttrs_list PySem.F.slot_list_index PySem.F.type_list_index mt_index ho ha) :
    TyE X Ga (.Call (.Attribute o "index" apos) [e] [] cpos) (IsI (j : Nat)) Gc := fun q F σ G H I Q kk => by
  refine ⟨tBM K "list" (rIndex K) (uE X o) (tCons (uE X e) tNil), fun l => by rw [← hK l]; exact mk l _ _ (uE_pe l) (pa_cons (uE_pe l) pa_nil (hst l)), ho q F σ G H I _ fun v G1 H1 t1 I1 p1 => ?_⟩
  obtain ⟨a, xs, rfl, ha, hx⟩ := p1
  refine ⟨.inl ⟨rfl, xs, SqL.of (I1.sub _ _ ha)⟩, he q F σ G1 H1 I1 _ fun u G2 H2 t2 I2 p2 => ?_⟩
  obtain rfl : u = .int z := p2
  have hxs : ∀ m w', xs[m]? = some w' → ∃ i : Int, ns[m]? = some i ∧ w' = V.int i := fun m w' hm => by
    obtain ⟨P, hP, pP⟩ := hx.get' hm
    rw [List.getElem?_map] at hP
    cases c : ns[m]? with
    | none => rw [c] at hP; cases hP
    | some i => rw [c] at hP; cases hP; exact ⟨i, c, pP⟩
  obtain ⟨v', hv', pv'⟩ := hx.get (i := j) (P := IsI z) (by rw [List.getElem?_map, hj]; rfl)
  obtain rfl : v' = .int z := pv'
  refine ⟨a, xs, .int z, j, .int z, rfl, rfl, SqL.of (I2.sub _ _ (t2.k _ _ ha)), rfl, ?_, hv', by simp [eqV], fun m z' hm hz' => ?_, kk _ G2 H2 (t1.trans t2) I2 rfl⟩
  · rw [List.all_eq_true]
    intro w' hw'
    obtain ⟨m, hm⟩ := List.getElem?_of_mem hw'
    obtain ⟨i, _, rfl⟩ := hxs m w' hm
    rfl
  · obtain ⟨i, hi, rfl⟩ := hxs m z' hz'
    have : i ≠ z := fun e => hf m hm (by rw [hi, e])
    simp [eqV, this]
end
end Ty
end
section
/-! The program's text; the first defs. -/
namespace Tf
open PySem PySem.Spec PyProof.Rows L2 Ty
abbrev R : PySem.W.OpenRow := PySem.W.OpenLaw.row PySem.Challenge.rw_truthfees_k05_whole_priced_twins_and_few
def top (i : Nat) : Stmt := R.prog.main.body.getD i (.Pass ⟨0, 0, 0, 0⟩)
abbrev FnP (K : PySem.W.Frag) (x qual : Str) (st : Stmt) (f : Addr) (fd : FuncData) : Prop := FunD K x qual (defArgs st) (defBody st) (defScope st) [] [] f fd
/-- the built-ins that the program names -/
structure Fb (mg : Str → Option Value) : Prop where
  len : mg "len" = none
  range : mg "range" = none
  abs : mg "abs" = none
  all : mg "all" = none
  int : mg "int" = none
  bool : mg "bool" = none
  str : mg "str" = none
  tuple : mg "tuple" = none
  list : mg "list" = none
  zip : mg "zip" = none
  enum : mg "enumerate" = none
  sum : mg "sum" = none
  min : mg "min" = none
  max : mg "max" = none
  isi : mg "isinstance" = none
  iter : mg "iter" = none
section
variable {P : Program} {w : World} {K : PySem.W.Frag} {mg : Str → Option Value} {base : Heap} {f : Addr} {fd : FuncData}
/-! ### common -/
abbrev NCommon : List Str := ["a", "b", "one", "other"]
theorem scCommon : FnScope NCommon ["a", "b"] (defScope (top 11)) := ⟨rfl, rfl, rfl, by decide +kernel, rfl, by decide +kernel, by decide +kernel⟩
abbrev aCommon (d : Int × Int) : List Pd := [IsI d.1, IsI d.2]
abbrev rCommon (d : Int × Int) : Pd := IsI (Nat.gcd d.1.natAbs d.2.natAbs : Nat)
abbrev spCommon : Sp := SpD aCommon (fun _ => True) rCommon
theorem body_common (b : Fb mg) (d : Int × Int) : BodyOk P w K mg base NCommon "common" (defScope (top 11)) (defBody (top 11)) 0 (padG NCommon ((aCommon d).map .is)) (rCommon d) none := by
  intro f cdv Ar outer s H E fam
  refine ⟨none, ?_, fun _ h => nomatch h⟩
  refine b_par (P1 := IsI (d.1.natAbs : Nat)) (P2 := IsI (d.2.natAbs : Nat)) (fun l => ps_par (i := 2) (j := 3) rfl scCommon.nd rfl rfl (by decide) rfl rfl (uA_pa l) (by rfl)) (a_2 (e_abs (fun _ => b.abs) (vr 0)) (e_abs (fun _ => b.abs) (vr 1))) ?_
  refine b_while (δ := Nat × Nat) (fun z => [.is (IsI d.1), .is (IsI d.2), .is (IsI (z.1 : Nat)), .is (IsI (z.2 : Nat))]) (fun z => [.is (IsI d.1), .is (IsI d.2), .is (IsI (z.1 : Nat)), .is (IsI (z.2 : Nat))]) (fun z => !decide ((z.2 : Int) = 0)) (fun z => (z.2, z.1 % z.2)) (fun z => z.2) (fun z => Nat.gcd z.1 z.2 = Nat.gcd d.1.natAbs d.2.natAbs) (d.1.natAbs, d.2.natAbs) rfl (fun _ => rfl) rfl
    (fun z _ => t_ne (vr 3) e_int) (fun z hz ht => ?_) (fun z hz ht => ?_) (fun z hz ht => ?_)
  · have h0 : 0 < (z.2 : Int) := by simp at ht; omega
    exact b_par (P1 := IsI (z.2 : Nat)) (P2 := IsI ((z.1 % z.2 : Nat) : Int)) (fun l => ps_par (i := 2) (j := 3) rfl scCommon.nd rfl rfl (by decide) rfl rfl (uA_pa l) (by rfl)) (a_2 (vr 3) ((e_mod (vr 2) (vr 3) h0).eq (by rw [Int.natCast_emod]))) (b_nil (GaLe.refl _))
  · have h0 : 0 < z.2 := by simp at ht; omega
    refine ⟨?_, Nat.mod_lt _ h0⟩
    rw [← hz, Nat.gcd_comm z.1 z.2, Nat.gcd_rec z.2 z.1, Nat.gcd_comm]
  · have h0 : z.2 = 0 := by simp at ht; omega
    refine b_ret ((vr 2).eq ?_) OwnAt.none
    rw [h0, Nat.gcd_zero_right] at hz
    rw [hz]
theorem ok_common (b : Fb mg) (F : FnP K "common" "common" (top 11) f fd) : FnOk P w K mg base CX0 1 f fd ["a", "b"] spCommon := fn_d F scCommon (fun _ => rfl) fun d _ => body_common b d
theorem gf_common (b : Fb mg) (F : FnP K "common" "common" (top 11) f fd) (hm : mg "common" = some (.ref f)) : Gf P w K mg base 1 "common" spCommon :=
  Gf.of (ok_common b F) (F.bindsN fun _ _ _ _ _ _ us hl => match us, hl with | [_, _], _ => rfl) hm F.kp
end
end Tf
end
section
/-! What is looked at behind the top. -/
namespace Tf
open PySem PySem.Spec PyProof.Rows L2
abbrev Fg : Type := PySem.W.Frag
def gD (x : Str) (i : Nat) : He5.DefA := { at_ := fun K => He.ga K x, name := x, qual := x, params := defArgs (top i), body := defBody (top i), scope := defScope (top i) }
def mD (c m q : Str) (i j : Nat) : He5.DefA := { at_ := fun K => He.ma K (He.ga K c) m, name := m, qual := q, params := defArgs (inClass (top i) j), body := defBody (inClass (top i) j), scope := defScope (inClass (top i) j) }
def cD (c m q : Str) (i j : Nat) : He5.DefA := { mD c m q i j with at_ := fun K => He5.wf K (He.ga K c) "classmethod" m }
def someB (a : Option Bool) : Bool := decide (a = some true)
theorem someB_ok {a : Option Bool} (h : someB a = true) : a = some true := of_decide_eq_true h
def insB (c : Str) (K : Fg) : Bool := He.eqO (PySem.W.findIn K (.ref (He.ga K c)) "__class__") (some (some (.builtin "object.__class__"))) && (He.eqO (PySem.W.specialIn K (.builtin "object.__class__") "__get__") (some (some (.builtin "getset_descriptor.__get__"))) && (someB (PySem.W.takesIn K (.builtin "object.__class__")) && (someB (PySem.W.mroIn K (He.ga K c) (.type "object")) && someB (PySem.W.kitOne K (.ref (He.ga K c)) (.ref (He.ga K c))))))
def firB (c : Str) (K : Fg) : Bool := PySem.W.selfFirst K (He.ga K c)
def neB (c : Str) (K : Fg) : Bool := He.eqO (PySem.W.findIn K (.ref (He.ga K c)) "__ne__") (some (some (.builtin "object.__ne__"))) && someB (PySem.W.mroIn K (He.ga K c) (.type "object"))
def callB (c : Str) (K : Fg) : Bool := PySem.W.fnIn K (He.ma K (He.ga K c) "__call__")
def rdB (c : Str) (K : Fg) : Bool := PySem.W.readsIn K (He.ga K c) (.type "type") && He.eqO (PySem.W.specialIn K (.ref (He.ga K c)) "__getattribute__") (some (some (.builtin "type.__getattribute__")))
def cmB (c m : Str) (K : Fg) : Bool := He5.wrapB K (He.ga K c) "classmethod" "classmethod.__get__" m && PySem.W.fnIn K (He5.wf K (He.ga K c) "classmethod" m)
theorem insB_ok {c : Str} {K : Fg} (h : insB c K = true) (k : Cls K (He.ga K c)) : C8.InsC K (He.ga K c) := by
  obtain ⟨h1, h⟩ := He.ba h
  obtain ⟨h2, h⟩ := He.ba h
  obtain ⟨h3, h⟩ := He.ba h
  obtain ⟨h4, h5⟩ := He.ba h
  exact ⟨k, He.eqO_ok h1, He.eqO_ok h2, someB_ok h3, someB_ok h4, someB_ok h5⟩
theorem rdB_ok {c : Str} {K : Fg} (h : rdB c K = true) : ClX.CRead K (He.ga K c) (.type "type") := by
  obtain ⟨h1, h2⟩ := He.ba h
  exact ⟨h1, He.eqO_ok h2⟩
theorem cmB_ok {c m : Str} {K : Fg} (h : cmB c m K = true) : ClX.CMet K (He.ga K c) (.type "type") m (He.ma K (He.ga K c) m) (He5.wf K (He.ga K c) "classmethod" m) := by
  obtain ⟨h1, h2⟩ := He.ba h
  exact He5.cmet_of h1 h2
/-! ### what is reached: who was seen stands in the bits of a number -/
def seeA : List Addr → Nat → List Addr → Nat × List Addr
  | [], seen, nx => (seen, nx)
  | a :: r, seen, nx => match Nat.beq (Nat.land (Nat.shiftRight seen a) 1) 1 with
    | true => seeA r seen nx
    | false => seeA r (Nat.lor seen (Nat.shiftLeft 1 a)) (a :: nx)
def refsA (g : Addr → Option Obj) (a : Addr) : List Addr := match g a with
  | some o => He.refsD o
  | none => []
def goA (g : Addr → Option Obj) : Nat → Nat → List Addr → List Addr
  | 0, _, now => now
  | n + 1, seen, now => match seeA (now.flatMap (refsA g)) seen [] with
    | (seen', nx) => now ++ goA g n seen' nx
def reachA (g : Addr → Option Obj) (n : Nat) : List Addr := cStatics :: goA g n (Nat.shiftLeft 1 mainGlobals) [mainGlobals]
/-! ### the look -/
abbrev LookV : Type := Bool × List He5.FnW
def lookK (fs : List He.Fa) (ds : List He5.DefA) (es : List (Fg → Bool)) (K : Fg) : LookV := ((fs.all fun f => f.ok K) && ((ds.all fun d => d.ok K) && es.all fun e => e K), ds.map fun d => He5.fnA K (d.at_ K))
def lookW (ds : List He5.DefA) : LookV := (true, ds.map fun d => d.val)
def Told (fs : List He.Fa) (ds : List He5.DefA) (es : List (Fg → Bool)) (K : Fg) : Prop := lookK fs ds es K = lookW ds
def lookG (n : Nat) (fs : List He.Fa) (ds : List He5.DefA) (es : List (Fg → Bool)) (g : Addr → Option Obj) : LookV := lookK fs ds es (He.frG g (reachA g n))
def hookZ (n : Nat) (fs : List He.Fa) (ds : List He5.DefA) (es : List (Fg → Bool)) : PySem.W.Hook where
  α := LookV
  obs := fun st => lookG n fs ds es st.heap.get?
  val := fun _ => lookW ds
  says := fun _ hp => ∃ K : Fg, K.In hp ∧ Told fs ds es K
  of := fun _ _ z => ⟨_, He.frG_in, z⟩
  keeps := fun _ _ _ ⟨K, i, z⟩ kk => ⟨K, PySem.W.Frag.In.keeps i kk, z⟩
section
variable {fs : List He.Fa} {ds : List He5.DefA} {es : List (Fg → Bool)} {K : Fg}
theorem Told.b (z : Told fs ds es K) : (∀ f ∈ fs, f.ok K = true) ∧ (∀ d ∈ ds, d.ok K = true) ∧ ∀ e ∈ es, e K = true := by
  obtain ⟨h1, h⟩ := He.ba (congrArg Prod.fst z : ((fs.all fun f => f.ok K) && ((ds.all fun d => d.ok K) && es.all fun e => e K)) = true)
  obtain ⟨h2, h3⟩ := He.ba h
  exact ⟨List.all_eq_true.mp h1, List.all_eq_true.mp h2, List.all_eq_true.mp h3⟩
theorem Told.f (z : Told fs ds es K) (i : Nat) {f : He.Fa} (h : fs[i]? = some f := by rfl) : f.ok K = true := z.b.1 f (List.mem_of_getElem? h)
theorem Told.e (z : Told fs ds es K) (i : Nat) {e : Fg → Bool} (h : es[i]? = some e := by rfl) : e K = true := z.b.2.2 e (List.mem_of_getElem? h)
theorem Told.d (z : Told fs ds es K) (i : Nat) {d : He5.DefA} (h : ds[i]? = some d := by rfl) : ∃ fd, FunD K d.name d.qual d.params d.body d.scope (d.dvs K) (d.kws K) (d.at_ K) fd := by
  have e0 : ds.map (fun d => He5.fnA K (d.at_ K)) = ds.map fun d => d.val := congrArg Prod.snd z
  have e1 : (ds.map fun d => He5.fnA K (d.at_ K))[i]? = (ds.map fun d => d.val)[i]? := congrArg (fun l : List He5.FnW => l[i]?) e0
  rw [List.getElem?_map, List.getElem?_map, h] at e1
  exact He5.DefA.funD (Option.some.inj e1) (z.b.2.1 d (List.mem_of_getElem? h))
end

def faZ0 : List He.Fa := [.free "len", .free "range", .free "abs", .free "all", .free "int", .free "bool", .free "str", .free "tuple", .free "list", .free "zip", .free "enumerate", .free "sum", .free "min", .free "max", .free "isinstance", .free "iter", .int "MOST_KINDS_fees" 6, .int "MOST_KINDS_worths" 6, .int "MOST_OUTCOMES" 6, .str "DIGITS" "0123456789"]
def faZ1 : List He.Fa := [.glo "common", .glo "is_count", .glo "is_top", .glo "greatest", .glo "least", .glo "check_rule", .glo "check_fees", .glo "check_kinds", .glo "loss", .glo "gain", .glo "lies", .glo "best_lie", .glo "most_gain", .glo "is_true", .glo "ring_sum", .glo "turned", .glo "ways_of", .glo "can_be_true", .glo "ring_or_none", .glo "begin_of"]
def faZ2 : List He.Fa := [.glo "greatest_fees", .glo "least_fees", .glo "spread", .glo "is_only", .glo "check_two", .glo "rounds", .glo "least_mean", .glo "least_gain", .glo "least_sums", .glo "fees_within", .glo "nearest_fees", .glo "_law_bag", .glo "_law_draw", .glo "_law_at", .glo "_law_numbers", .glo "_law_told_row", .glo "_law_worths", .glo "_law_rule", .glo "_law_fees", .glo "_law_rings"]
def faZ3 : List He.Fa := [.glo "_law_pair", .glo "_law_priced_right", .glo "_law_twin_right", .glo "_law_unused_right", .glo "_law_fewer_right", .glo "_law_handed_right", .glo "law", .glo "Ratio", .cls "Ratio", .mkr "Ratio", .meth "Ratio" "__add__", .meth "Ratio" "__sub__", .meth "Ratio" "__neg__", .meth "Ratio" "__eq__", .meth "Ratio" "__str__", .meth "Ratio" "under", .glo "Fees", .cls "Fees", .mkr "Fees", .meth "Fees" "__call__"]
def faZ4 : List He.Fa := [.meth "Fees" "__len__", .meth "Fees" "__iter__", .glo "Ways", .cls "Ways", .mkr "Ways", .meth "Ways" "bend", .meth "Ways" "round_sum", .meth "Ways" "simple", .glo "Worths", .cls "Worths", .mkr "Worths", .meth "Worths" "__call__", .meth "Worths" "row", .meth "Worths" "__eq__", .meth "Worths" "__add__", .meth "Worths" "__str__", .meth "Worths" "with_worth", .glo "Rule", .cls "Rule", .mkr "Rule"]
def faZ5 : List He.Fa := [.meth "Rule" "__call__", .meth "Rule" "__len__", .meth "Rule" "__iter__", .meth "Rule" "__eq__", .meth "Rule" "with_outcome", .noat "Ratio" "top", .noat "Ratio" "bottom", .noat "Fees" "amounts", .noat "Ways" "kinds", .noat "Ways" "losses", .noat "Ways" "sums", .noat "Ways" "ways", .noat "Ways" "ring", .noat "Worths" "cells", .noat "Worths" "kinds", .noat "Worths" "outcomes", .noat "Rule" "outcomes"]
def faZ : List He.Fa := faZ0 ++ faZ1 ++ faZ2 ++ faZ3 ++ faZ4 ++ faZ5
def fnZ0 : List He5.DefA := [gD "common" 11, gD "is_count" 12, gD "is_top" 13, gD "greatest" 15, gD "least" 16, gD "check_rule" 21, gD "check_fees" 22, gD "check_kinds" 23, gD "loss" 24, gD "gain" 25, gD "lies" 26, gD "best_lie" 27, gD "most_gain" 28, gD "is_true" 29, gD "ring_sum" 30, gD "turned" 33, gD "ways_of" 34, gD "can_be_true" 35, gD "ring_or_none" 36, gD "begin_of" 37]
def fnZ1 : List He5.DefA := [{ gD "greatest_fees" 38 with kwd := [("kind", .int 0), ("amount", .non)] }, { gD "least_fees" 39 with kwd := [("kind", .int 0), ("amount", .non)] }, gD "spread" 40, gD "is_only" 41, gD "check_two" 43, gD "rounds" 44, gD "least_mean" 45, gD "least_gain" 46, gD "least_sums" 47, gD "fees_within" 48, gD "nearest_fees" 49, gD "_law_bag" 56, gD "_law_draw" 57, gD "_law_at" 58, gD "_law_numbers" 59, gD "_law_told_row" 60, gD "_law_worths" 62, gD "_law_rule" 63, gD "_law_fees" 64, gD "_law_rings" 65]
def fnZ2 : List He5.DefA := [gD "_law_pair" 67, gD "_law_priced_right" 68, gD "_law_twin_right" 69, gD "_law_unused_right" 70, gD "_law_fewer_right" 71, gD "_law_handed_right" 72, gD "law" 73, mD "Ratio" "__init__" "Ratio.__init__" 14 0, cD "Ratio" "whole" "Ratio.whole" 14 1, cD "Ratio" "read" "Ratio.read" 14 2, mD "Ratio" "__add__" "Ratio.__add__" 14 3, mD "Ratio" "__sub__" "Ratio.__sub__" 14 4, mD "Ratio" "__neg__" "Ratio.__neg__" 14 5, mD "Ratio" "__eq__" "Ratio.__eq__" 14 7, mD "Ratio" "__str__" "Ratio.__str__" 14 9, mD "Ratio" "under" "Ratio.under" 14 11, mD "Fees" "__init__" "Fees.__init__" 19 0, cD "Fees" "read" "Fees.read" 19 1, mD "Fees" "__call__" "Fees.__call__" 19 2, mD "Fees" "__len__" "Fees.__len__" 19 3]
def fnZ3 : List He5.DefA := [mD "Fees" "__iter__" "Fees.__iter__" 19 4, mD "Ways" "__init__" "Ways.__init__" 32 0, mD "Ways" "bend" "Ways.bend" 32 1, mD "Ways" "round_sum" "Ways.round_sum" 32 2, mD "Ways" "simple" "Ways.simple" 32 3, mD "Worths" "__init__" "Worths.__init__" 53 0, cD "Worths" "read" "Worths.read" 53 1, mD "Worths" "__call__" "Worths.__call__" 53 2, mD "Worths" "row" "Worths.row" 53 3, mD "Worths" "__eq__" "Worths.__eq__" 53 4, mD "Worths" "__add__" "Worths.__add__" 53 5, mD "Worths" "__str__" "Worths.__str__" 53 6, mD "Worths" "with_worth" "Worths.with_worth" 53 7, mD "Rule" "__init__" "Rule.__init__" 54 0, cD "Rule" "read" "Rule.read" 54 1, mD "Rule" "__call__" "Rule.__call__" 54 2, mD "Rule" "__len__" "Rule.__len__" 54 3, mD "Rule" "__iter__" "Rule.__iter__" 54 4, mD "Rule" "__eq__" "Rule.__eq__" 54 5, mD "Rule" "with_outcome" "Rule.with_outcome" 54 7]
def fnZ : List He5.DefA := fnZ0 ++ fnZ1 ++ fnZ2 ++ fnZ3
def exZ0 : List (PySem.W.Frag → Bool) := [insB "Ratio", insB "Fees", insB "Worths", insB "Rule", firB "Ratio", firB "Worths", neB "Ratio", neB "Worths", neB "Rule", callB "Fees", callB "Worths", callB "Rule", rdB "Ratio", rdB "Fees", rdB "Worths", rdB "Rule", cmB "Ratio" "whole", cmB "Ratio" "read", cmB "Fees" "read", cmB "Worths" "read"]
def exZ1 : List (PySem.W.Frag → Bool) := [cmB "Rule" "read"]
def exZ : List (PySem.W.Frag → Bool) := exZ0 ++ exZ1
end Tf
end
section
/-! The run of the top. -/
namespace Tf
open PySem PySem.Spec PyProof.Rows L2
def nm0 : List PySem.Str := ["_wall", "FeeError", "BadNumber", "BadText", "BadKind", "BadOutcome", "Unlike", "NothingToShow", "DIGITS", "common", "is_count", "is_top", "Ratio", "greatest", "least", "MOST_KINDS_fees", "Fees", "check_alike", "check_rule", "check_fees", "check_kinds", "loss", "gain", "lies", "best_lie", "most_gain", "is_true", "ring_sum", "Ways", "turned"]
def nm1 : List PySem.Str := ["ways_of", "can_be_true", "ring_or_none", "begin_of", "greatest_fees", "least_fees", "spread", "is_only", "check_two", "rounds", "least_mean", "least_gain", "least_sums", "fees_within", "nearest_fees", "MOST_KINDS_worths", "MOST_OUTCOMES", "Worths", "Rule", "_law_bag", "_law_draw", "_law_at", "_law_numbers", "_law_told_row", "_law_cost", "_law_worths", "_law_rule", "_law_fees", "_law_rings", "_law_round"]
def nm2 : List PySem.Str := ["_law_pair", "_law_priced_right", "_law_twin_right", "_law_unused_right", "_law_fewer_right", "_law_handed_right"]
def names : List PySem.Str := nm0 ++ nm1 ++ nm2
abbrev hkZ : PySem.W.Hook := hookZ 6 faZ fnZ exZ
def obZ (st : PySem.W.SharedT) : LookV := lookG 6 faZ fnZ exZ (HandSHeadRun.getT st)
theorem obZ_eq (st : PySem.W.SharedT) : obZ st = hkZ.obs st.abs := by
  have e : HandSHeadRun.getT st = st.abs.heap.get? := funext (HandSHeadRun.getT_eq st)
  show lookG 6 faZ fnZ exZ (HandSHeadRun.getT st) = lookG 6 faZ fnZ exZ st.abs.heap.get?
  rw [e]
theorem runZ (w : World) : HandSHeadRun.RunEq R (PySem.W.view R.prog [73]) hkZ obZ 60000 names w := by
  intro os
  kernel_rfl
end Tf
end
section
/-! Ratio. -/
namespace Tf
open PySem PySem.Spec PyProof.Rows L2 Ty
/-! ### numbers of moderate size -/
def Sz (q : Rat) : Prop := q.num.natAbs < 2 ^ 250 ∧ q.den < 2 ^ 250
theorem log2_lt {n k : Nat} (hk : 0 < k) (h : n < 2 ^ k) : n.log2 < k := by
  by_cases h0 : n = 0
  · subst h0; simpa using hk
  · exact (Nat.log2_lt h0).mpr h
theorem mulW {i j : Int} {k l : Nat} (h1 : i.natAbs < 2 ^ k) (h2 : j.natAbs < 2 ^ l) (h : 0 < k ∧ 0 < l ∧ k + l ≤ 1000000 := by decide) : CMulW i j := by
  have := log2_lt h.1 h1
  have := log2_lt h.2.1 h2
  show i.natAbs.log2 + j.natAbs.log2 < 1000000
  omega
theorem Sz.n {q : Rat} (h : Sz q) : q.num.natAbs < 2 ^ 250 := h.1
theorem Sz.d {q : Rat} (h : Sz q) : (q.den : Int).natAbs < 2 ^ 250 := by rw [Int.natAbs_natCast]; exact h.2
theorem den_pos (q : Rat) : 0 < q.den := q.den_pos
/-- a fraction's place -/
abbrev raF (q : Rat) : List (Str × Pd) := [("top", IsI q.num), ("bottom", IsI (q.den : Nat))]
abbrev Ra (C : Addr) (q : Rat) : Pd := In C (raF q)
structure RaF (mg : Str → Option Value) (K : PySem.W.Frag) (C : Addr) : Prop where
  glo : mg "Ratio" = some (.ref C)
  isc : C8.InsC K C
  naT : NoAttr K C "top"
  naB : NoAttr K C "bottom"
section
variable {P : Program} {w : World} {K : PySem.W.Frag} {mg : Str → Option Value} {base : Heap} {f : Addr} {fd : FuncData} {cR : Addr}
/-! ### Ratio(top, bottom) -/
abbrev NInit : List Str := ["self", "top", "bottom", "divisor"]
theorem scInit : FnScope NInit ["self", "top", "bottom"] (defScope (inClass (top 14) 0)) := ⟨rfl, rfl, rfl, by decide +kernel, rfl, by decide +kernel, by decide +kernel⟩
abbrev aInit (d : Int × Nat) : List Pd := [IsI d.1, IsI (d.2 : Nat)]
abbrev sInit (d : Int × Nat) : Prop := 0 < d.2 ∧ d.2 < 2 ^ 1300
abbrev spInit (cR : Addr) : Sp := spMk cR aInit sInit fun d => raF (mkRat d.1 d.2)
theorem body_init (g : Gf P w K mg base 1 "common" spCommon) (r : RaF mg K cR) (d : Int × Nat) (hd : sInit d) : BodyOk P w K mg base NInit "Ratio.__init__" (defScope (inClass (top 14) 0)) (defBody (inClass (top 14) 0)) 1 (padG NInit (.own (Ob cR []) :: (aInit d).map .is)) (Is .non) (some (Ob cR (raF (mkRat d.1 d.2)))) := by
  intro f cdv Ar outer s H E fam
  have nd := scInit.nd
  have h0 : ¬ ((d.2 : Int) = 0) := by have := hd.1; omega
  have h1 : ¬ ((d.2 : Int) < 0) := by omega
  have hg0 : 0 < Nat.gcd d.1.natAbs (d.2 : Int).natAbs := Nat.gcd_pos_of_pos_right _ (by have := hd.1; omega)
  have hg1 : Nat.gcd d.1.natAbs (d.2 : Int).natAbs ≤ d.2 := Nat.gcd_le_right _ hd.1
  have hw : CDivW d.1 (Nat.gcd d.1.natAbs (d.2 : Int).natAbs : Nat) := ⟨by omega, by rw [Int.natAbs_natCast]; exact Nat.lt_of_lt_of_le (log2_lt (k := 1300) (by decide) (Nat.lt_of_le_of_lt hg1 hd.2)) (by decide)⟩
  have hw2 : CDivW (d.2 : Nat) (Nat.gcd d.1.natAbs (d.2 : Int).natAbs : Nat) := hw
  refine ⟨some [.own (Ob cR (raF (mkRat d.1 d.2))), .is (IsI d.1), .is (IsI d.2), .is (IsI (Nat.gcd d.1.natAbs (d.2 : Int).natAbs : Nat))], ?_, fun Ge e => ⟨fun _ => rfl, by cases e; exact OwnAt.at 0 rfl⟩⟩
  refine b_guard (t_eq (vr 2) e_int) (decide_eq_false h0) ?_
  refine b_st 3 (fun _ => nd) (e_gf fam g (d.1, (d.2 : Int)) (fun _ => rfl) (a_2 (vr 1) (vr 2)) trivial) ?_
  refine b_guard (t_lt (vr 2) e_int) (decide_eq_false h1) ?_
  refine b_fld (fun _ => rfl) r.isc.cl r.naT (fun _ => pv 0) (e_fdiv (vr 1) (vr 3) hw) rfl .own rfl (of_decide_eq_true rfl) ?_
  refine b_fld (fun _ => rfl) r.isc.cl r.naB (fun _ => pv 0) (e_fdiv (vr 2) (vr 3) hw2) rfl .own rfl (of_decide_eq_true rfl) (b_nil (.cons (.own ?_) (GaLe.refl _)))
  have hn : (mkRat d.1 d.2).num = d.1 / (Nat.gcd d.1.natAbs (d.2 : Int).natAbs : Nat) := by
    rw [Rat.num_mkRat, if_neg (by have := hd.1; omega), Int.natAbs_natCast, Nat.gcd_comm]
  have hd' : ((mkRat d.1 d.2).den : Int) = (d.2 : Int) / (Nat.gcd d.1.natAbs (d.2 : Int).natAbs : Nat) := by
    rw [Rat.den_mkRat, if_neg (by have := hd.1; omega), Int.natAbs_natCast, Nat.gcd_comm, Int.natCast_ediv]
  intro o G h
  show (Ob cR [("top", IsI (mkRat d.1 d.2).num), ("bottom", IsI ((mkRat d.1 d.2).den : Nat))]).m o G
  rw [hn, hd']
  exact h
theorem ok_init (g : Gf P w K mg base 1 "common" spCommon) (r : RaF mg K cR) (F : FnP K "__init__" "Ratio.__init__" (inClass (top 14) 0) f fd) : FnOk P w K mg base CX0 2 f fd ["self", "top", "bottom"] (spInit cR) := fn_o F scInit (fun _ => rfl) fun d hd => body_init g r d hd
theorem mk_ratio (g : Gf P w K mg base 1 "common" spCommon) (r : RaF mg K cR) (F : FnP K "__init__" "Ratio.__init__" (inClass (top 14) 0) f fd) (M : Mk K cR f) : Mkf P w K mg base 2 cR (spInit cR) :=
  ⟨f, Ty.FnOk.r (ok_init g r F) (F.bindsN fun _ _ _ _ _ _ us hl => match us, hl with | [_, _, _], _ => rfl), M⟩
/-! ### whole -/
abbrev NWhole : List Str := ["cls", "n"]
theorem scWhole : FnScope NWhole ["cls", "n"] (defScope (inClass (top 14) 1)) := ⟨rfl, rfl, rfl, by decide +kernel, rfl, by decide +kernel, by decide +kernel⟩
abbrev spWhole (cR : Addr) : Sp := SpD (fun n : Int => [Is (.ref cR), IsI n]) (fun _ => True) (fun n => Ra cR (n : Rat))
theorem mk_one (n : Int) : mkRat n 1 = (n : Rat) := by
  apply Rat.ext
  · rw [Rat.num_mkRat, Rat.num_intCast]; simp
  · rw [Rat.den_mkRat, Rat.den_intCast]; simp
theorem body_whole (m : Mkf P w K mg base 2 cR (spInit cR)) (n : Int) : BodyOk P w K mg base NWhole "Ratio.whole" (defScope (inClass (top 14) 1)) (defBody (inClass (top 14) 1)) 3 (padG NWhole ([Is (.ref cR), IsI n].map .is)) (Ra cR (n : Rat)) none := by
  intro f cdv Ar outer s H E fam
  refine ⟨none, ?_, fun _ h => nomatch h⟩
  refine b_ret ((e_mkL fam m (n, 1) 0 (fun _ => rfl) (fun _ => Or.inl rfl) rfl (a_2 (vr 1) e_int) ⟨Nat.one_pos, Nat.one_lt_two_pow (by decide)⟩).eq ?_) OwnAt.none
  show Ra cR (mkRat n 1) = _
  rw [mk_one]
theorem ok_whole (m : Mkf P w K mg base 2 cR (spInit cR)) (F : FnP K "whole" "Ratio.whole" (inClass (top 14) 1) f fd) : FnOk P w K mg base CX0 4 f fd ["cls", "n"] (spWhole cR) := fn_d F scWhole (fun _ => rfl) fun d _ => body_whole m d
/-! ### +, -, unary -, ==, under -/
abbrev NTwo : List Str := ["self", "other"]
abbrev aTwo (cR : Addr) (d : Rat × Rat) : List Pd := [Ra cR d.1, Ra cR d.2]
abbrev sTwo (d : Rat × Rat) : Prop := Sz d.1 ∧ Sz d.2
theorem scAdd : FnScope NTwo ["self", "other"] (defScope (inClass (top 14) 3)) := ⟨rfl, rfl, rfl, by decide +kernel, rfl, by decide +kernel, by decide +kernel⟩
theorem scSub : FnScope NTwo ["self", "other"] (defScope (inClass (top 14) 4)) := ⟨rfl, rfl, rfl, by decide +kernel, rfl, by decide +kernel, by decide +kernel⟩
theorem scNeg : FnScope ["self"] ["self"] (defScope (inClass (top 14) 5)) := ⟨rfl, rfl, rfl, by decide +kernel, rfl, by decide +kernel, by decide +kernel⟩
theorem scEq : FnScope NTwo ["self", "other"] (defScope (inClass (top 14) 7)) := ⟨rfl, rfl, rfl, by decide +kernel, rfl, by decide +kernel, by decide +kernel⟩
theorem scUnder : FnScope NTwo ["self", "other"] (defScope (inClass (top 14) 11)) := ⟨rfl, rfl, rfl, by decide +kernel, rfl, by decide +kernel, by decide +kernel⟩
abbrev spAdd (cR : Addr) : Sp := SpD (aTwo cR) sTwo (fun d => Ra cR (d.1 + d.2))
abbrev spSub (cR : Addr) : Sp := SpD (aTwo cR) sTwo (fun d => Ra cR (d.1 - d.2))
abbrev spNeg (cR : Addr) : Sp := SpD (fun q : Rat => [Ra cR q]) Sz (fun q => Ra cR (-q))
abbrev spEq (cR : Addr) : Sp := SpD (aTwo cR) (fun _ => True) (fun d => IsB (decide (d.1 = d.2)))
abbrev spUnder (cR : Addr) : Sp := SpD (aTwo cR) sTwo (fun d => IsB (decide (d.1 < d.2)))
section
variable {ι : Type} {X : ι → Cx} {Ga Gb : List Sl} {e : Expr} {pos : Pos} {q : Rat}
theorem e_top (r : RaF mg K cR) (hK : ∀ l, (X l).K = K) (h : TyE X Ga e (Ra cR q) Gb) (hb : ∀ l, attributeBase e "top" (X l).env (eval e (X l).env) = eval e (X l).env := by intro l; rfl) : TyE X Ga (.Attribute e "top" pos) (IsI q.num) Gb := e_fld 0 hK r.isc.cl r.naT h rfl ⟨rfl, rfl⟩ hb
theorem e_bot (r : RaF mg K cR) (hK : ∀ l, (X l).K = K) (h : TyE X Ga e (Ra cR q) Gb) (hb : ∀ l, attributeBase e "bottom" (X l).env (eval e (X l).env) = eval e (X l).env := by intro l; rfl) : TyE X Ga (.Attribute e "bottom" pos) (IsI (q.den : Nat)) Gb := e_fld 1 hK r.isc.cl r.naB h rfl ⟨rfl, rfl⟩ hb
end
theorem den2 {a b : Rat} (h : Sz a ∧ Sz b) : 0 < a.den * b.den ∧ a.den * b.den < 2 ^ 1300 := by
  refine ⟨Nat.mul_pos a.den_pos b.den_pos, ?_⟩
  have := Nat.mul_lt_mul'' h.1.2 h.2.2
  exact Nat.lt_of_lt_of_le this (by rw [← Nat.pow_add]; exact Nat.pow_le_pow_right (by decide) (by decide))
theorem body_add (m : Mkf P w K mg base 2 cR (spInit cR)) (r : RaF mg K cR) (d : Rat × Rat) (h : sTwo d) : BodyOk P w K mg base NTwo "Ratio.__add__" (defScope (inClass (top 14) 3)) (defBody (inClass (top 14) 3)) 3 (padG NTwo ((aTwo cR d).map .is)) (Ra cR (d.1 + d.2)) none := by
  intro f cdv Ar outer s H E fam
  refine ⟨none, ?_, fun _ h => nomatch h⟩
  have z1 := h.1
  have z2 := h.2
  refine b_ret (TyE.eq (e_mk fam m (d.1.num * (d.2.den : Nat) + d.2.num * (d.1.den : Nat), d.1.den * d.2.den) (fun _ => rfl) r.glo (a_2
    (e_add (e_mul (e_top r (fun _ => rfl) (vr 0)) (e_bot r (fun _ => rfl) (vr 1)) (mulW z1.n z2.d)) (e_mul (e_top r (fun _ => rfl) (vr 1)) (e_bot r (fun _ => rfl) (vr 0)) (mulW z2.n z1.d)))
    ((e_mul (e_bot r (fun _ => rfl) (vr 0)) (e_bot r (fun _ => rfl) (vr 1)) (mulW z1.d z2.d)).eq (by rw [Int.natCast_mul]))) (den2 h)) ?_) OwnAt.none
  show Ra cR (mkRat _ _) = _
  rw [Rat.add_def']
theorem body_sub (m : Mkf P w K mg base 2 cR (spInit cR)) (r : RaF mg K cR) (d : Rat × Rat) (h : sTwo d) : BodyOk P w K mg base NTwo "Ratio.__sub__" (defScope (inClass (top 14) 4)) (defBody (inClass (top 14) 4)) 3 (padG NTwo ((aTwo cR d).map .is)) (Ra cR (d.1 - d.2)) none := by
  intro f cdv Ar outer s H E fam
  refine ⟨none, ?_, fun _ h => nomatch h⟩
  have z1 := h.1
  have z2 := h.2
  refine b_ret (TyE.eq (e_mk fam m (d.1.num * (d.2.den : Nat) - d.2.num * (d.1.den : Nat), d.1.den * d.2.den) (fun _ => rfl) r.glo (a_2
    (e_sub (e_mul (e_top r (fun _ => rfl) (vr 0)) (e_bot r (fun _ => rfl) (vr 1)) (mulW z1.n z2.d)) (e_mul (e_top r (fun _ => rfl) (vr 1)) (e_bot r (fun _ => rfl) (vr 0)) (mulW z2.n z1.d)))
    ((e_mul (e_bot r (fun _ => rfl) (vr 0)) (e_bot r (fun _ => rfl) (vr 1)) (mulW z1.d z2.d)).eq (by rw [Int.natCast_mul]))) (den2 h)) ?_) OwnAt.none
  show Ra cR (mkRat _ _) = _
  rw [Rat.sub_def']
theorem body_neg (m : Mkf P w K mg base 2 cR (spInit cR)) (r : RaF mg K cR) (q : Rat) (h : Sz q) : BodyOk P w K mg base ["self"] "Ratio.__neg__" (defScope (inClass (top 14) 5)) (defBody (inClass (top 14) 5)) 3 (padG ["self"] ([Ra cR q].map .is)) (Ra cR (-q)) none := by
  intro f cdv Ar outer s H E fam
  refine ⟨none, ?_, fun _ h => nomatch h⟩
  refine b_ret (TyE.eq (e_mk fam m (-q.num, q.den) (fun _ => rfl) r.glo (a_2 (e_neg (e_top r (fun _ => rfl) (vr 0))) (e_bot r (fun _ => rfl) (vr 0))) ⟨q.den_pos, Nat.lt_of_lt_of_le h.2 (Nat.pow_le_pow_right (by decide) (by decide))⟩) ?_) OwnAt.none
  show Ra cR (mkRat (-q.num) q.den) = _
  have : mkRat (-q.num) q.den = -q := by
    rw [← Rat.neg_num, ← Rat.neg_den, Rat.mkRat_self]
  rw [this]
theorem lt_dec (a b : Rat) : decide (a.num * (b.den : Nat) < b.num * (a.den : Nat)) = decide (a < b) := by
  by_cases h : a < b
  · rw [decide_eq_true h, decide_eq_true ((Rat.lt_iff a b).mp h)]
  · rw [decide_eq_false h, decide_eq_false (fun z => h ((Rat.lt_iff a b).mpr z))]
theorem body_under (r : RaF mg K cR) (d : Rat × Rat) (h : sTwo d) : BodyOk P w K mg base NTwo "Ratio.under" (defScope (inClass (top 14) 11)) (defBody (inClass (top 14) 11)) 0 (padG NTwo ((aTwo cR d).map .is)) (IsB (decide (d.1 < d.2))) none := by
  intro f cdv Ar outer s H E fam
  refine ⟨none, ?_, fun _ h => nomatch h⟩
  have z1 := h.1
  have z2 := h.2
  refine b_ret ((v_lt (e_mul (e_top r (fun _ => rfl) (vr 0)) (e_bot r (fun _ => rfl) (vr 1)) (mulW z1.n z2.d)) (e_mul (e_top r (fun _ => rfl) (vr 1)) (e_bot r (fun _ => rfl) (vr 0)) (mulW z2.n z1.d))).eq ?_) OwnAt.none
  rw [lt_dec]
theorem c_isC {C : Addr} {Fs : List (Str × Pd)} : CaT (fun xs H Q => ∃ a dx fs, xs = [V.ref a, .ref C] ∧ H a = some (.ins C dx fs) ∧ Q (.bl true) H) [In C Fs, Is (.ref C)] (IsB true) := fun xs G H Q e p k => by
  match xs, p with
  | [u, v], p =>
    obtain ⟨p1, p2, _⟩ := p
    obtain ⟨a, dx, vs, rfl, h1, q1⟩ := p1
    cases p2
    exact ⟨a, dx, _, rfl, e _ _ h1, k _ G H (Step.refl e) rfl⟩
theorem e_isC {ι : Type} {X : ι → Cx} {Ga Gb Gc : List Sl} {e c : Expr} {pos p : Pos} {C : Addr} {Fs : List (Str × Pd)} (hm : ∀ i, (X i).mg "isinstance" = none) (hK : ∀ i, (X i).K = K) (ic : C8.InsC K C) (ha : TyE X Ga e (In C Fs) Gb) (hc : TyE X Gb c (Is (.ref C)) Gc) (hg : ∀ i, Gl (X i) "isinstance" := by intro i; rfl)
    (hs : ∀ i, starEach [e, c] (X i).env = (false, eval e (X i).env) :: starEach [c] (X i).env := by intro i; rfl) (hs2 : ∀ i, starEach [c] (X i).env = (false, eval c (X i).env) :: starEach [] (X i).env := by intro i; rfl) (hpl : ∀ i, (backTo pos (starEach [c] (X i).env)).any (·.1) = false := by intro i; rfl) :
    TyE X Ga (.Call (.Name "isinstance" p) [e, c] [] pos) (IsB true) Gc := e_callB (fun i => C8.call_isC (X := X i) (by rw [hK i]; exact ic)) hg hm bo_isi (a_2 ha hc hs hs2) c_isC (by decide) (by decide) hs hpl
theorem body_eq (b : Fb mg) (r : RaF mg K cR) (d : Rat × Rat) : BodyOk P w K mg base NTwo "Ratio.__eq__" (defScope (inClass (top 14) 7)) (defBody (inClass (top 14) 7)) 0 (padG NTwo ((aTwo cR d).map .is)) (IsB (decide (d.1 = d.2))) none := by
  intro f cdv Ar outer s H E fam
  refine ⟨none, ?_, fun _ h => nomatch h⟩
  refine b_ret ((e_and (e_isC (fun _ => b.isi) (fun _ => rfl) r.isc (vr 1) (e_cls (fun _ => r.glo))) (fun _ => e_and (b2 := decide ((d.1.den : Int) = (d.2.den : Int))) (v_eq (e_top r (fun _ => rfl) (vr 0)) (e_top r (fun _ => rfl) (vr 1))) (fun _ => e_one (v_eq (e_bot r (fun _ => rfl) (vr 0)) (e_bot r (fun _ => rfl) (vr 1)))) (fun _ => GaLe.refl _)) (fun h => nomatch h)).eq ?_) OwnAt.none
  have : (true && (decide (d.1.num = d.2.num) && decide ((d.1.den : Int) = (d.2.den : Int)))) = decide (d.1 = d.2) := by
    by_cases h : d.1 = d.2
    · rw [h]; simp
    · rw [decide_eq_false h]
      cases h1 : decide (d.1.num = d.2.num) with
      | false => rfl
      | true =>
        cases h2 : decide ((d.1.den : Int) = (d.2.den : Int)) with
        | false => rfl
        | true => exact absurd (Rat.ext (of_decide_eq_true h1) (by have := of_decide_eq_true h2; omega)) h
  rw [this]
end
end Tf
end
section
/-! greatest, least. -/
namespace Tf
open PySem PySem.Spec PyProof.Rows L2 Ty
def gmax (q : Rat) (qs : List Rat) : Rat := (q :: qs).foldl (fun m x => if m < x then x else m) q
def gmin (q : Rat) (qs : List Rat) : Rat := (q :: qs).foldl (fun m x => if x < m then x else m) q
section
variable {P : Program} {w : World} {K : PySem.W.Frag} {mg : Str → Option Value} {base : Heap} {f : Addr} {fd : FuncData} {cR : Addr}
abbrev NGr : List Str := ["ratios", "found", "ratio"]
theorem scGr : FnScope NGr ["ratios"] (defScope (top 15)) := ⟨rfl, rfl, rfl, by decide +kernel, rfl, by decide +kernel, by decide +kernel⟩
theorem scLs : FnScope NGr ["ratios"] (defScope (top 16)) := ⟨rfl, rfl, rfl, by decide +kernel, rfl, by decide +kernel, by decide +kernel⟩
abbrev aGr (cR : Addr) (d : Rat × List Rat) : List Pd := [Ls ((d.1 :: d.2).map (Ra cR))]
abbrev sGr (d : Rat × List Rat) : Prop := (∀ q ∈ d.1 :: d.2, Sz q) ∧ d.2.length < 1000
abbrev spGr (cR : Addr) : Sp := SpD (aGr cR) sGr (fun d => Ra cR (gmax d.1 d.2))
abbrev spLs (cR : Addr) : Sp := SpD (aGr cR) sGr (fun d => Ra cR (gmin d.1 d.2))
theorem body_gr (b : Fb mg) (u : Mf P w K mg base 1 cR "under" (spUnder cR)) (d : Rat × List Rat) (h : sGr d) : BodyOk P w K mg base NGr "greatest" (defScope (top 15)) (defBody (top 15)) 1 (padG NGr ((aGr cR d).map .is)) (Ra cR (gmax d.1 d.2)) none := by
  intro f cdv Ar outer s H E fam
  have nd := scGr.nd
  refine ⟨none, ?_, fun _ h => nomatch h⟩
  refine b_guard (t_eq (e_lenL (fun _ => b.len) (fun _ => rfl) (vr 0)) e_int) (decide_eq_false (by simp; omega)) ?_
  refine b_st 1 (fun _ => nd) (P := Ra cR d.1) (e_ixL (fun _ => rfl) (vr 0) e_int (atI_nat (k := 0) rfl)) ?_
  refine b_forF (d.1 :: d.2) (Ra cR) (fun m => [.is (Ls ((d.1 :: d.2).map (Ra cR))), .is (Ra cR m), .any]) (fun m x => [.is (Ls ((d.1 :: d.2).map (Ra cR))), .is (Ra cR m), .is (Ra cR x)]) (fun m x => if m < x then x else m) d.1 (fun _ m => Sz m) (h.1 _ List.mem_cons_self) (fun _ => rfl) (fun _ => rfl)
    (i_list (fun _ => rfl) (vr 0)) (fun m x _ => g_nm 2 (fun _ => nd)) (fun _ m x hx hm _ => ?_) (fun _ m x hx hm _ => ?_) fun _ => b_ret (vr 1) OwnAt.none
  · refine b_if (e_meth fam u (m, x) (vr 1) (a_1 (vr 2)) rfl ⟨hm, h.1 _ hx⟩ rfl |> t_val) (fun hb => b_st 1 (fun _ => nd) (vr 2) (b_nil ?_)) (fun hb => b_nil ?_) (b_nil (GaLe.refl _))
    · rw [if_pos (of_decide_eq_true hb)]; exact .cons .rfl (.cons .rfl (.cons .any .nil))
    · rw [if_neg (of_decide_eq_false hb)]; exact .cons .rfl (.cons .rfl (.cons .any .nil))
  · show Sz (if m < x then x else m)
    split
    · exact h.1 _ hx
    · exact hm
theorem body_ls (b : Fb mg) (u : Mf P w K mg base 1 cR "under" (spUnder cR)) (d : Rat × List Rat) (h : sGr d) : BodyOk P w K mg base NGr "least" (defScope (top 16)) (defBody (top 16)) 1 (padG NGr ((aGr cR d).map .is)) (Ra cR (gmin d.1 d.2)) none := by
  intro f cdv Ar outer s H E fam
  have nd := scGr.nd
  refine ⟨none, ?_, fun _ h => nomatch h⟩
  refine b_guard (t_eq (e_lenL (fun _ => b.len) (fun _ => rfl) (vr 0)) e_int) (decide_eq_false (by simp; omega)) ?_
  refine b_st 1 (fun _ => nd) (P := Ra cR d.1) (e_ixL (fun _ => rfl) (vr 0) e_int (atI_nat (k := 0) rfl)) ?_
  refine b_forF (d.1 :: d.2) (Ra cR) (fun m => [.is (Ls ((d.1 :: d.2).map (Ra cR))), .is (Ra cR m), .any]) (fun m x => [.is (Ls ((d.1 :: d.2).map (Ra cR))), .is (Ra cR m), .is (Ra cR x)]) (fun m x => if x < m then x else m) d.1 (fun _ m => Sz m) (h.1 _ List.mem_cons_self) (fun _ => rfl) (fun _ => rfl)
    (i_list (fun _ => rfl) (vr 0)) (fun m x _ => g_nm 2 (fun _ => nd)) (fun _ m x hx hm _ => ?_) (fun _ m x hx hm _ => ?_) fun _ => b_ret (vr 1) OwnAt.none
  · refine b_if (e_meth fam u (x, m) (vr 2) (a_1 (vr 1)) rfl ⟨h.1 _ hx, hm⟩ rfl |> t_val) (fun hb => b_st 1 (fun _ => nd) (vr 2) (b_nil ?_)) (fun hb => b_nil ?_) (b_nil (GaLe.refl _))
    · rw [if_pos (of_decide_eq_true hb)]; exact .cons .rfl (.cons .rfl (.cons .any .nil))
    · rw [if_neg (of_decide_eq_false hb)]; exact .cons .rfl (.cons .rfl (.cons .any .nil))
  · show Sz (if x < m then x else m)
    split
    · exact h.1 _ hx
    · exact hm
end
end Tf
end
section
/-! Rule, Worths: made, called. -/
namespace Tf
open PySem PySem.Spec PyProof.Rows L2 Ty
theorem nle {a b c : Int} (h1 : a ≤ b) (h2 : b ≤ c) : (!(decide (a ≤ b) && decide (b ≤ c))) = false := by rw [decide_eq_true h1, decide_eq_true h2]; rfl
theorem nlt {a b c : Int} (h1 : a ≤ b) (h2 : b < c) : (!(decide (a ≤ b) && decide (b < c))) = false := by rw [decide_eq_true h1, decide_eq_true h2]; rfl
abbrev ni (t : Nat) : Pd := IsI (t : Nat)
abbrev ruF (told : List Nat) : List (Str × Pd) := [("outcomes", Tp (told.map ni))]
abbrev Ru (C : Addr) (told : List Nat) : Pd := In C (ruF told)
def rowP (r : List Int) : Pd := Ls (r.map IsI)
abbrev woF (rows : List (List Int)) : List (Str × Pd) := [("cells", Ls (rows.map rowP)), ("kinds", ni rows.length), ("outcomes", ni (rows.headD []).length)]
abbrev Wo (C : Addr) (rows : List (List Int)) : Pd := In C (woF rows)
abbrev feF (cR : Addr) (qs : List Rat) : List (Str × Pd) := [("amounts", Tp (qs.map (Ra cR)))]
abbrev Fe (cR C : Addr) (qs : List Rat) : Pd := In C (feF cR qs)
structure RuF (mg : Str → Option Value) (K : PySem.W.Frag) (C : Addr) : Prop where
  glo : mg "Rule" = some (.ref C)
  isc : C8.InsC K C
  naO : NoAttr K C "outcomes"
structure WoF (mg : Str → Option Value) (K : PySem.W.Frag) (C : Addr) : Prop where
  glo : mg "Worths" = some (.ref C)
  isc : C8.InsC K C
  naC : NoAttr K C "cells"
  naK : NoAttr K C "kinds"
  naO : NoAttr K C "outcomes"
structure FeF (mg : Str → Option Value) (K : PySem.W.Frag) (C : Addr) : Prop where
  glo : mg "Fees" = some (.ref C)
  isc : C8.InsC K C
  naA : NoAttr K C "amounts"
/-- the numbers of the module -/
structure Fc (mg : Str → Option Value) : Prop where
  mkf : ∃ u, mg "MOST_KINDS_fees" = some u ∧ RelV (.int 6) u
  mkw : ∃ u, mg "MOST_KINDS_worths" = some u ∧ RelV (.int 6) u
  mo : ∃ u, mg "MOST_OUTCOMES" = some u ∧ RelV (.int 6) u
  dig : ∃ u, mg "DIGITS" = some u ∧ RelV (.str "0123456789") u
section
variable {ι : Type} {X : ι → Cx} {Ga Gb : List Sl} {e : Expr} {pos : Pos} {x : Str}
theorem e_gc {v : V} (h : ∀ i, ∃ u, (X i).mg x = some u ∧ RelV v u) (hg : ∀ i, Gl (X i) x := by intro i; rfl) (hd : (x == ("__debug__" : Str)) = false := by decide) : TyE X Ga (.Name x pos) (Is v) Ga := e_c fun i => C8.pe_gc (hg i) (h i) hd
end
section
variable {P : Program} {w : World} {K : PySem.W.Frag} {mg : Str → Option Value} {base : Heap} {f : Addr} {fd : FuncData} {cR cF cW cU : Addr}
/-! ### Rule( *outcomes) -/
abbrev NRI : List Str := ["self", "outcomes", "outcome"]
theorem scRI : FnScope NRI ["self", "outcomes"] (defScope (inClass (top 54) 0)) := ⟨rfl, rfl, rfl, by decide +kernel, rfl, by decide +kernel, by decide +kernel⟩
abbrev sRI (t : List Nat) : Prop := 1 ≤ t.length ∧ t.length ≤ 6 ∧ ∀ o ∈ t, o < 6
abbrev spRI (cU : Addr) : Sp := spMk cU (fun t : List Nat => t.map ni) sRI ruF
theorem body_ri (b : Fb mg) (c : Fc mg) (r : RuF mg K cU) (t : List Nat) (h : sRI t) : BodyOk P w K mg base NRI "Rule.__init__" (defScope (inClass (top 54) 0)) (defBody (inClass (top 54) 0)) 0 (padG NRI [.own (Ob cU []), .is (Tp (t.map ni))]) (Is .non) (some (Ob cU (ruF t))) := by
  intro f cdv Ar outer s H E fam
  have nd := scRI.nd
  have hl : (t.map ni).length = t.length := List.length_map _
  refine ⟨some [.own (Ob cU (ruF t)), .is (Tp (t.map ni)), .any], ?_, fun Ge e => ⟨fun _ => rfl, by cases e; exact OwnAt.at 0 rfl⟩⟩
  refine b_guard (t_not (t_leLe e_int (e_lenT (fun _ => b.len) (fun _ => rfl) (vr 1)) (e_gc (fun _ => c.mkw)))) (nle (by have := h.1; omega) (by have := h.2.1; omega)) ?_
  refine b_forF t ni (fun _ : Unit => [.own (Ob cU []), .is (Tp (t.map ni)), .any]) (fun _ o => [.own (Ob cU []), .is (Tp (t.map ni)), .is (ni o)]) (fun _ _ => ()) () (fun _ _ => True) trivial (fun _ => rfl) (fun _ => rfl) (i_tup (fun _ => rfl) (vr 1)) (fun _ o _ => g_nm 2 (fun _ => nd)) (fun _ _ o ho _ _ => ?_) (fun _ _ _ _ _ _ => trivial) fun _ => ?_
  · exact b_guard (t_not (t_leLt e_int (vr 2) (e_gc (fun _ => c.mo)))) (nlt (by omega) (by have := h.2.2 o ho; omega)) (b_nil (.cons .rfl (.cons .rfl (.cons .any .nil))))
  · exact b_fld (fun _ => rfl) r.isc.cl r.naO (fun _ => pv 0) (e_tupSq (fun _ => b.tuple) (fun _ => rfl) (vr 1) fun _ _ h => Tp.sq h) rfl .own rfl (of_decide_eq_true rfl) (b_nil (GaLe.refl _))
theorem len6 {t : List Nat} (h : sRI t) : (t.map ni).length ≤ sizeLine := by
  have := h.2.1
  rw [List.length_map, sizeLine_eq]
  omega
theorem mk_rule (b : Fb mg) (c : Fc mg) (r : RuF mg K cU) (F : FnP K "__init__" "Rule.__init__" (inClass (top 54) 0) f fd) (M : Mk K cU f) : Mkf P w K mg base 1 cU (spRI cU) :=
  ⟨f, fn_so F scRI (fun d hd => len6 hd) (fun _ _ _ _ _ _ _ => rfl) (fun _ _ _ _ _ _ _ _ _ => rfl) (fun d hd => body_ri b c r d hd), M⟩
end
end Tf
end
section
/-! Rule called, walked; Worths. -/
namespace Tf
open PySem PySem.Spec PyProof.Rows L2 Ty
theorem at_map {α : Type} {β : Type} {l : List α} {g : α → β} {k : Nat} {d : α} (h : k < l.length) : atI (l.map g) (k : Int) = some (g (l.getD k d)) := by
  apply Ty.atI_nat
  rw [List.getElem?_map, List.getElem?_eq_getElem h]
  simp [List.getD, List.getElem?_eq_getElem h]
/-- a table with equal rows -/
structure Rc (rows : List (List Int)) : Prop where
  n1 : 1 ≤ rows.length
  n6 : rows.length ≤ 6
  eq : ∀ r ∈ rows, r.length = (rows.headD []).length
  m1 : 1 ≤ (rows.headD []).length
  m6 : (rows.headD []).length ≤ 6
theorem Rc.row {rows : List (List Int)} (h : Rc rows) {k : Nat} (hk : k < rows.length) : (rows.getD k []).length = (rows.headD []).length := h.eq _ (by
  rw [List.getD_eq_getElem?_getD, List.getElem?_eq_getElem hk]
  exact List.getElem_mem hk)
theorem Rc.head {rows : List (List Int)} (h : Rc rows) : rows.getD 0 [] = rows.headD [] := by
  cases rows with
  | nil => rfl
  | cons a r => rfl
section
variable {P : Program} {w : World} {K : PySem.W.Frag} {mg : Str → Option Value} {base : Heap} {f : Addr} {fd : FuncData} {cR cF cW cU : Addr}
/-! ### Rule's __call__, __len__ -/
abbrev NRC : List Str := ["self", "kind"]
theorem scRC : FnScope NRC ["self", "kind"] (defScope (inClass (top 54) 2)) := ⟨rfl, rfl, rfl, by decide +kernel, rfl, by decide +kernel, by decide +kernel⟩
abbrev spRC (cU : Addr) : Sp := SpD (fun d : List Nat × Nat => [Ru cU d.1, ni d.2]) (fun d => d.2 < d.1.length) (fun d => ni (d.1.getD d.2 0))
section
variable {ι : Type} {X : ι → Cx} {Ga Gb : List Sl} {e : Expr} {pos : Pos} {t : List Nat} {rows : List (List Int)} {qs : List Rat}
theorem e_outs (r : RuF mg K cU) (hK : ∀ l, (X l).K = K) (h : TyE X Ga e (Ru cU t) Gb) (hb : ∀ l, attributeBase e "outcomes" (X l).env (eval e (X l).env) = eval e (X l).env := by intro l; rfl) : TyE X Ga (.Attribute e "outcomes" pos) (Tp (t.map ni)) Gb := e_fld 0 hK r.isc.cl r.naO h rfl ⟨rfl, rfl⟩ hb
theorem e_cells (r : WoF mg K cW) (hK : ∀ l, (X l).K = K) (h : TyE X Ga e (Wo cW rows) Gb) (hb : ∀ l, attributeBase e "cells" (X l).env (eval e (X l).env) = eval e (X l).env := by intro l; rfl) : TyE X Ga (.Attribute e "cells" pos) (Ls (rows.map rowP)) Gb := e_fld 0 hK r.isc.cl r.naC h rfl ⟨rfl, rfl⟩ hb
theorem e_kinds (r : WoF mg K cW) (hK : ∀ l, (X l).K = K) (h : TyE X Ga e (Wo cW rows) Gb) (hb : ∀ l, attributeBase e "kinds" (X l).env (eval e (X l).env) = eval e (X l).env := by intro l; rfl) : TyE X Ga (.Attribute e "kinds" pos) (ni rows.length) Gb := e_fld 1 hK r.isc.cl r.naK h rfl ⟨rfl, rfl⟩ hb
theorem e_wouts (r : WoF mg K cW) (hK : ∀ l, (X l).K = K) (h : TyE X Ga e (Wo cW rows) Gb) (hb : ∀ l, attributeBase e "outcomes" (X l).env (eval e (X l).env) = eval e (X l).env := by intro l; rfl) : TyE X Ga (.Attribute e "outcomes" pos) (ni (rows.headD []).length) Gb := e_fld 2 hK r.isc.cl r.naO h rfl ⟨rfl, rfl⟩ hb
theorem e_amts (r : FeF mg K cF) (hK : ∀ l, (X l).K = K) (h : TyE X Ga e (Fe cR cF qs) Gb) (hb : ∀ l, attributeBase e "amounts" (X l).env (eval e (X l).env) = eval e (X l).env := by intro l; rfl) : TyE X Ga (.Attribute e "amounts" pos) (Tp (qs.map (Ra cR))) Gb := e_fld 0 hK r.isc.cl r.naA h rfl ⟨rfl, rfl⟩ hb
end
theorem body_rc (b : Fb mg) (r : RuF mg K cU) (d : List Nat × Nat) (h : d.2 < d.1.length) : BodyOk P w K mg base NRC "Rule.__call__" (defScope (inClass (top 54) 2)) (defBody (inClass (top 54) 2)) 0 (padG NRC ([Ru cU d.1, ni d.2].map .is)) (ni (d.1.getD d.2 0)) none := by
  intro f cdv Ar outer s H E fam
  refine ⟨none, ?_, fun _ h => nomatch h⟩
  refine b_guard (t_not (t_leLt e_int (vr 1) (e_lenT (fun _ => b.len) (fun _ => rfl) (e_outs r (fun _ => rfl) (vr 0))))) (nlt (by omega) (by rw [List.length_map]; omega)) ?_
  exact b_ret (e_ixT (fun _ => rfl) (e_outs r (fun _ => rfl) (vr 0)) (vr 1) (at_map h)) OwnAt.none
theorem scRL : FnScope ["self"] ["self"] (defScope (inClass (top 54) 3)) := ⟨rfl, rfl, rfl, by decide +kernel, rfl, by decide +kernel, by decide +kernel⟩
abbrev spRL (cU : Addr) : Sp := SpD (fun t : List Nat => [Ru cU t]) (fun _ => True) (fun t => ni t.length)
theorem body_rl (b : Fb mg) (r : RuF mg K cU) (t : List Nat) : BodyOk P w K mg base ["self"] "Rule.__len__" (defScope (inClass (top 54) 3)) (defBody (inClass (top 54) 3)) 0 (padG ["self"] ([Ru cU t].map .is)) (ni t.length) none := by
  intro f cdv Ar outer s H E fam
  refine ⟨none, ?_, fun _ h => nomatch h⟩
  exact b_ret ((e_lenT (fun _ => b.len) (fun _ => rfl) (e_outs r (fun _ => rfl) (vr 0))).eq (by rw [List.length_map])) OwnAt.none
/-! ### Worths( *rows) -/
abbrev NWI : List Str := ["self", "rows", "row"]
theorem scWI : FnScope NWI ["self", "rows"] (defScope (inClass (top 53) 0)) := ⟨rfl, rfl, rfl, by decide +kernel, rfl, by decide +kernel, by decide +kernel⟩
abbrev spWI (cW : Addr) : Sp := spMk cW (fun t : List (List Int) => t.map rowP) Rc woF
theorem body_wi (b : Fb mg) (c : Fc mg) (r : WoF mg K cW) (t : List (List Int)) (h : Rc t) : BodyOk P w K mg base NWI "Worths.__init__" (defScope (inClass (top 53) 0)) (defBody (inClass (top 53) 0)) 0 (padG NWI [.own (Ob cW []), .is (Tp (t.map rowP))]) (Is .non) (some (Ob cW (woF t))) := by
  intro f cdv Ar outer s H E fam
  have nd := scWI.nd
  have h6 := h.n6
  have hz : t.length ≤ sizeLine := by rw [sizeLine_eq]; omega
  have l0 : ((t.headD []).map IsI).length = (t.headD []).length := List.length_map _
  refine ⟨some [.own (Ob cW (woF t)), .is (Tp (t.map rowP)), .any], ?_, fun Ge e => ⟨fun _ => rfl, by cases e; exact OwnAt.at 0 rfl⟩⟩
  have at0 : atI (t.map rowP) ((0 : Int)) = some (rowP (t.headD [])) := by
    have := at_map (l := t) (g := rowP) (k := 0) (d := []) h.n1
    rw [h.head] at this
    exact this
  refine b_guard (t_not (t_leLe e_int (e_lenT (fun _ => b.len) (fun _ => rfl) (vr 1)) (e_gc (fun _ => c.mkw)))) (nle (by have := h.n1; rw [List.length_map]; omega) (by rw [List.length_map]; omega)) ?_
  refine b_guard (t_not (t_leLe e_int (e_lenL (Ps := (t.headD []).map IsI) (fun _ => b.len) (fun _ => rfl) (e_ixT (fun _ => rfl) (vr 1) e_int at0)) (e_gc (fun _ => c.mo)))) (nle (by have := h.m1; rw [l0]; omega) (by have := h.m6; rw [l0]; omega)) ?_
  refine b_forF t rowP (fun _ : Unit => [.own (Ob cW []), .is (Tp (t.map rowP)), .any]) (fun _ o => [.own (Ob cW []), .is (Tp (t.map rowP)), .is (rowP o)]) (fun _ _ => ()) () (fun _ _ => True) trivial (fun _ => rfl) (fun _ => rfl) (i_tup (fun _ => rfl) (vr 1)) (fun _ o _ => g_nm 2 (fun _ => nd)) (fun _ _ o ho _ _ => ?_) (fun _ _ _ _ _ _ => trivial) fun _ => ?_
  · refine b_guard (t_ne (e_lenL (Ps := o.map IsI) (fun _ => b.len) (fun _ => rfl) (vr 2)) (e_lenL (Ps := (t.headD []).map IsI) (fun _ => b.len) (fun _ => rfl) (e_ixT (fun _ => rfl) (vr 1) e_int at0))) ?_ (b_nil (.cons .rfl (.cons .rfl (.cons .any .nil))))
    rw [List.length_map, List.length_map, h.eq o ho]
    simp
  · refine b_fld (fun _ => rfl) r.isc.cl r.naC (fun _ => pv 0) (P := Ls (t.map rowP)) (e_lcN (ds := t) (it := rowP) (f := rowP) 2 (fun _ => nd) (fun _ => rfl) (i_tup (fun _ => rfl) (vr 1)) (fun o ho => e_listSq (fun _ => b.list) (fun _ => rfl) (vr 2) fun _ _ h => Ls.sq h) hz (fun i M h z => by subst z; cases h)) rfl .own rfl (of_decide_eq_true rfl) ?_
    refine b_fld (fun _ => rfl) r.isc.cl r.naK (fun _ => pv 0) (P := ni t.length) ((e_lenT (fun _ => b.len) (fun _ => rfl) (vr 1)).eq (by rw [List.length_map])) rfl .own rfl (of_decide_eq_true rfl) ?_
    refine b_fld (fun _ => rfl) r.isc.cl r.naO (fun _ => pv 0) (P := ni (t.headD []).length) ((e_lenL (Ps := (t.headD []).map IsI) (fun _ => b.len) (fun _ => rfl) (e_ixT (fun _ => rfl) (vr 1) e_int at0)).eq (by rw [l0])) rfl .own rfl (of_decide_eq_true rfl) (b_nil (GaLe.refl _))
end
end Tf
end
section
/-! Worths called; checks; loss. -/
namespace Tf
open PySem PySem.Spec PyProof.Rows L2 Ty
def cellV (rows : List (List Int)) (k o : Nat) : Int := (rows.getD k []).getD o 0
/-- worths and a rule that fit -/
structure Vd (rows : List (List Int)) (t : List Nat) : Prop where
  rc : Rc rows
  len : t.length = rows.length
  lt : ∀ o ∈ t, o < (rows.headD []).length
  bd : ∀ k o, (cellV rows k o).natAbs ≤ 2 ^ 80
def lossV (rows : List (List Int)) (t : List Nat) (k l : Nat) : Int := cellV rows k (t.getD k 0) - cellV rows k (t.getD l 0)
theorem Vd.at {rows : List (List Int)} {t : List Nat} (h : Vd rows t) {k : Nat} (hk : k < rows.length) : t.getD k 0 < (rows.headD []).length := h.lt _ (by
  rw [List.getD_eq_getElem?_getD, List.getElem?_eq_getElem (by rw [h.len]; exact hk)]
  exact List.getElem_mem _)
section
variable {P : Program} {w : World} {K : PySem.W.Frag} {mg : Str → Option Value} {base : Heap} {f : Addr} {fd : FuncData} {cR cF cW cU : Addr}
/-! ### Worths' row, __call__ -/
theorem scWR : FnScope NRC ["self", "kind"] (defScope (inClass (top 53) 3)) := ⟨rfl, rfl, rfl, by decide +kernel, rfl, by decide +kernel, by decide +kernel⟩
abbrev spWR (cW : Addr) : Sp := SpD (fun d : List (List Int) × Nat => [Wo cW d.1, ni d.2]) (fun d => d.2 < d.1.length) (fun d => rowP (d.1.getD d.2 []))
theorem body_wr (b : Fb mg) (r : WoF mg K cW) (d : List (List Int) × Nat) (h : d.2 < d.1.length) : BodyOk P w K mg base NRC "Worths.row" (defScope (inClass (top 53) 3)) (defBody (inClass (top 53) 3)) 0 (padG NRC ([Wo cW d.1, ni d.2].map .is)) (rowP (d.1.getD d.2 [])) none := by
  intro f cdv Ar outer s H E fam
  refine ⟨none, ?_, fun _ h => nomatch h⟩
  refine b_guard (t_not (t_leLt e_int (vr 1) (e_kinds r (fun _ => rfl) (vr 0)))) (nlt (by omega) (by omega)) ?_
  exact b_ret (e_listSq (fun _ => b.list) (fun _ => rfl) (e_ixL (fun _ => rfl) (e_cells r (fun _ => rfl) (vr 0)) (vr 1) (at_map (d := []) h)) fun _ _ h => Ls.sq h) OwnAt.none
abbrev NWC : List Str := ["self", "kind", "outcome", "row"]
theorem scWC : FnScope NWC ["self", "kind", "outcome"] (defScope (inClass (top 53) 2)) := ⟨rfl, rfl, rfl, by decide +kernel, rfl, by decide +kernel, by decide +kernel⟩
abbrev spWC (cW : Addr) : Sp := SpD (fun d : List (List Int) × Nat × Nat => [Wo cW d.1, ni d.2.1, ni d.2.2]) (fun d => Rc d.1 ∧ d.2.1 < d.1.length ∧ d.2.2 < (d.1.headD []).length) (fun d => IsI (cellV d.1 d.2.1 d.2.2))
theorem body_wc (m : Mf P w K mg base 1 cW "row" (spWR cW)) (r : WoF mg K cW) (d : List (List Int) × Nat × Nat) (h : Rc d.1 ∧ d.2.1 < d.1.length ∧ d.2.2 < (d.1.headD []).length) : BodyOk P w K mg base NWC "Worths.__call__" (defScope (inClass (top 53) 2)) (defBody (inClass (top 53) 2)) 1 (padG NWC ([Wo cW d.1, ni d.2.1, ni d.2.2].map .is)) (IsI (cellV d.1 d.2.1 d.2.2)) none := by
  intro f cdv Ar outer s H E fam
  have nd := scWC.nd
  refine ⟨none, ?_, fun _ h => nomatch h⟩
  refine b_st 3 (fun _ => nd) (e_meth fam m (d.1, d.2.1) (vr 0) (a_1 (vr 1)) rfl h.2.1 rfl) ?_
  refine b_guard (t_not (t_leLt e_int (vr 2) (e_wouts r (fun _ => rfl) (vr 0)))) (nlt (by omega) (by have := h.2.2; omega)) ?_
  exact b_ret (e_ixL (Ps := (d.1.getD d.2.1 []).map IsI) (fun _ => rfl) (vr 3) (vr 2) (at_map (d := 0) (by rw [h.1.row h.2.1]; exact h.2.2))) OwnAt.none
/-! ### checks -/
abbrev NCR : List Str := ["worths", "rule", "outcome"]
theorem scCR : FnScope NCR ["worths", "rule"] (defScope (top 21)) := ⟨rfl, rfl, rfl, by decide +kernel, rfl, by decide +kernel, by decide +kernel⟩
abbrev dWR := List (List Int) × List Nat
abbrev aWR (cW cU : Addr) (d : dWR) : List Pd := [Wo cW d.1, Ru cU d.2]
abbrev sWR (d : dWR) : Prop := Vd d.1 d.2
abbrev spCR (cW cU : Addr) : Sp := SpD (aWR cW cU) sWR (fun _ => Is .non)
theorem body_cr (b : Fb mg) (rw_ : WoF mg K cW) (ru : RuF mg K cU) (L : Sf P w K mg base 1 cU "__len__" (spRL cU)) (It : Itf P w K mg base 1 cU "outcomes") (d : dWR) (h : sWR d) : BodyOk P w K mg base NCR "check_rule" (defScope (top 21)) (defBody (top 21)) 4 (padG NCR ((aWR cW cU d).map .is)) (Is .non) none := by
  intro f cdv Ar outer s H E fam
  have nd := scCR.nd
  refine ⟨some [.is (Wo cW d.1), .is (Ru cU d.2), .any], ?_, fun Ge e => ⟨fun _ => rfl, OwnAt.none⟩⟩
  refine b_guard (t_ne (e_kinds rw_ (fun _ => rfl) (vr 0)) (e_lenO fam L d.2 rfl trivial rfl (by have := h.len; have := h.rc.n6; omega) (fun _ => b.len) (vr 1))) (by rw [h.len]; simp) ?_
  refine b_forF d.2 ni (fun _ : Unit => [.is (Wo cW d.1), .is (Ru cU d.2), .any]) (fun _ o => [.is (Wo cW d.1), .is (Ru cU d.2), .is (ni o)]) (fun _ _ => ()) () (fun _ _ => True) trivial (fun _ => rfl) (fun _ => rfl) (i_own fam It 0 (vr 1) rfl ⟨rfl, rfl⟩) (fun _ o _ => g_nm 2 (fun _ => nd)) (fun _ _ o ho _ _ => ?_) (fun _ _ _ _ _ _ => trivial) fun _ => b_nil (GaLe.refl _)
  exact b_guard (t_ge (vr 2) (e_wouts rw_ (fun _ => rfl) (vr 0))) (decide_eq_false (by have := h.lt o ho; omega)) (b_nil (.cons .rfl (.cons .rfl (.cons .any .nil))))
abbrev NCK : List Str := ["worths", "kinds", "kind"]
theorem scCK : FnScope NCK ["worths", "kinds"] (defScope (top 23)) := ⟨rfl, rfl, rfl, by decide +kernel, rfl, by decide +kernel, by decide +kernel⟩
abbrev spCK (cW : Addr) : Sp := SpD (fun d : List (List Int) × List Nat => [Wo cW d.1, Ls (d.2.map ni)]) (fun d => ∀ k ∈ d.2, k < d.1.length) (fun _ => Is .non)
theorem body_ck (rw_ : WoF mg K cW) (d : List (List Int) × List Nat) (h : ∀ k ∈ d.2, k < d.1.length) : BodyOk P w K mg base NCK "check_kinds" (defScope (top 23)) (defBody (top 23)) 0 (padG NCK ([Wo cW d.1, Ls (d.2.map ni)].map .is)) (Is .non) none := by
  intro f cdv Ar outer s H E fam
  have nd := scCK.nd
  refine ⟨some [.is (Wo cW d.1), .is (Ls (d.2.map ni)), .any], ?_, fun Ge e => ⟨fun _ => rfl, OwnAt.none⟩⟩
  refine b_forF d.2 ni (fun _ : Unit => [.is (Wo cW d.1), .is (Ls (d.2.map ni)), .any]) (fun _ o => [.is (Wo cW d.1), .is (Ls (d.2.map ni)), .is (ni o)]) (fun _ _ => ()) () (fun _ _ => True) trivial (fun _ => rfl) (fun _ => rfl) (i_list (fun _ => rfl) (vr 1)) (fun _ o _ => g_nm 2 (fun _ => nd)) (fun _ _ o ho _ _ => ?_) (fun _ _ _ _ _ _ => trivial) fun _ => b_nil (GaLe.refl _)
  exact b_guard (t_not (t_leLt e_int (vr 2) (e_kinds rw_ (fun _ => rfl) (vr 0)))) (nlt (by omega) (by have := h o ho; omega)) (b_nil (.cons .rfl (.cons .rfl (.cons .any .nil))))
/-! ### loss -/
abbrev NLo : List Str := ["worths", "rule", "kind", "told"]
theorem scLo : FnScope NLo ["worths", "rule", "kind", "told"] (defScope (top 24)) := ⟨rfl, rfl, rfl, by decide +kernel, rfl, by decide +kernel, by decide +kernel⟩
abbrev dLo := dWR × Nat × Nat
abbrev aLo (cW cU : Addr) (d : dLo) : List Pd := [Wo cW d.1.1, Ru cU d.1.2, ni d.2.1, ni d.2.2]
abbrev sLo (d : dLo) : Prop := sWR d.1 ∧ d.2.1 < d.1.1.length ∧ d.2.2 < d.1.1.length
abbrev vLo (d : dLo) : Int := lossV d.1.1 d.1.2 d.2.1 d.2.2
abbrev spLo (cW cU : Addr) : Sp := SpD (aLo cW cU) sLo (fun d => IsI (vLo d))
theorem len2 {P1 P2 : Pd} : [P1, P2].length ≤ sizeLine := by rw [sizeLine_eq]; show 2 ≤ _; decide
theorem len1 {P1 : Pd} : [P1].length ≤ sizeLine := by rw [sizeLine_eq]; show 1 ≤ _; decide
theorem body_lo (CR : Gf P w K mg base 5 "check_rule" (spCR cW cU)) (CK : Gf P w K mg base 1 "check_kinds" (spCK cW)) (cw : Cof P w K mg base 2 cW (spWC cW)) (cu : Cof P w K mg base 1 cU (spRC cU)) (d : dLo) (h : sLo d) :
    BodyOk P w K mg base NLo "loss" (defScope (top 24)) (defBody (top 24)) 5 (padG NLo ((aLo cW cU d).map .is)) (IsI (vLo d)) none := by
  intro f cdv Ar outer s H E fam
  refine ⟨none, ?_, fun _ h => nomatch h⟩
  have hv := h.1
  refine b_expr (e_gf fam CR d.1 (fun _ => rfl) (a_2 (vr 0) (vr 1)) hv) ?_
  refine b_expr (e_gf fam CK (d.1.1, [d.2.1, d.2.2]) (fun _ => rfl) (a_2 (vr 0) (e_lst (a_2 (vr 2) (vr 3)) len2)) (by intro k hk; simp at hk; rcases hk with rfl | rfl; exact h.2.1; exact h.2.2)) ?_
  have l1 : d.2.1 < d.1.2.length := by rw [hv.len]; exact h.2.1
  have l2 : d.2.2 < d.1.2.length := by rw [hv.len]; exact h.2.2
  exact b_ret (e_sub (e_callOb fam cw (d.1.1, d.2.1, d.1.2.getD d.2.1 0) (vr 0) (a_2 (vr 2) (e_callOb fam cu (d.1.2, d.2.1) (vr 1) (a_1 (vr 2)) rfl l1)) rfl ⟨hv.rc, h.2.1, hv.at h.2.1⟩)
    (e_callOb fam cw (d.1.1, d.2.1, d.1.2.getD d.2.2 0) (vr 0) (a_2 (vr 2) (e_callOb fam cu (d.1.2, d.2.2) (vr 1) (a_1 (vr 3)) rfl l2)) rfl ⟨hv.rc, h.2.1, hv.at h.2.2⟩)) OwnAt.none
end
end Tf
end
section
/-! lies; Fees; gain. -/
namespace Tf
open PySem PySem.Spec PyProof.Rows L2 Ty
def liesV (n : Nat) : List (Nat × Nat) := (List.range n).flatMap fun k => ((List.range n).filter fun l => !decide (k = l)).map fun l => (k, l)
def pairP (p : Nat × Nat) : Pd := Tp [ni p.1, ni p.2]
theorem rg_ni {n : Nat} : rgP 0 n = (List.range n).map ni := by
  unfold rgP
  apply List.map_congr_left
  intro i _
  show IsI (0 + (i : Int)) = IsI (i : Int)
  rw [Int.zero_add]
theorem rg_ni1 {n : Nat} : rgP 1 n = (List.range n).map fun i => ni (i + 1) := by
  unfold rgP
  apply List.map_congr_left
  intro i _
  show IsI (1 + (i : Int)) = IsI ((i + 1 : Nat) : Int)
  congr 1
  omega
section
variable {ι : Type} {X : ι → Cx} {Ga Gb : List Sl} {tg e : Expr} {pos p : Pos} {n : Nat}
theorem i_rng (hm : ∀ i, (X i).mg "range" = none) (h : TyE X Ga e (ni n) Gb) (hn : n ≤ 1000) (hg : ∀ i, Gl (X i) "range" := by intro i; rfl) (hs : ∀ i, starEach [e] (X i).env = [(false, eval e (X i).env)] := by intro i; rfl) : TyI X Ga tg (.Call (.Name "range" p) [e] [] pos) ((List.range n).map ni) Gb := by
  have := i_range1 (tg := tg) (pos := pos) (p := p) hg hm (a_1 h hs) (j := (n : Int)) (by omega) (by omega) hs
  rw [Int.toNat_natCast, rg_ni] at this
  exact this
end
section
variable {P : Program} {w : World} {K : PySem.W.Frag} {mg : Str → Option Value} {base : Heap} {f : Addr} {fd : FuncData} {cR cF cW cU : Addr}
abbrev NLies : List Str := ["kinds", "kind", "told"]
theorem scLies : FnScope NLies ["kinds"] (defScope (top 26)) := ⟨rfl, rfl, rfl, by decide +kernel, rfl, by decide +kernel, by decide +kernel⟩
abbrev spLies : Sp := SpD (fun n : Nat => [ni n]) (fun n => n ≤ 6) (fun n => Ls ((liesV n).map pairP))
theorem liesV_eq (n : Nat) : ((List.range n).flatMap fun (k : Nat) => ((List.range n).filter fun (l : Nat) => !decide ((k : Int) = (l : Int))).map fun (l : Nat) => pairP (k, l)) = (liesV n).map pairP := by
  unfold liesV
  rw [List.map_flatMap]
  congr 1
  funext k
  rw [List.map_map]
  have : (fun l : Nat => !decide ((k : Int) = (l : Int))) = fun l : Nat => !decide (k = l) := by
    funext l
    by_cases h : k = l
    · rw [h]; simp
    · rw [decide_eq_false h, decide_eq_false (by omega)]
  rw [this]
  rfl
theorem body_lies (b : Fb mg) (n : Nat) (h : n ≤ 6) : BodyOk P w K mg base NLies "lies" (defScope (top 26)) (defBody (top 26)) 0 (padG NLies ([ni n].map .is)) (Ls ((liesV n).map pairP)) none := by
  intro f cdv Ar outer s H E fam
  have nd := scLies.nd
  refine ⟨none, ?_, fun _ h => nomatch h⟩
  have hz : ((List.range n).map fun _ => (List.range n).length).sum ≤ 36 := by
    rw [List.length_range, List.map_const', List.sum_replicate_nat, List.length_range]
    exact Nat.mul_le_mul h h
  refine b_ret (Gb := [.is (ni n), .any, .any]) (e_r ?_ (mk_lc2 (own := [("kind", 1), ("told", 2)]) (vs1 := [2]) (fun _ => rfl) (fun _ => nd) (fun _ => blkOk_by rfl) (by decide))) OwnAt.none
  rw [← liesV_eq]
  exact (n_lc2 (ks := [1]) (ks1 := [2]) (ds := List.range n) (es := fun _ => List.range n) (it := ni) (it1 := fun _ => ni) (f := fun k l => pairP (k, l)) (t := fun k l => !decide ((k : Int) = (l : Int)))
    (Bd := fun k => [.is (ni n), .is (ni k), .any]) (Bi := fun k l => [.is (ni n), .is (ni k), .is (ni l)]) (i_rng (Ga := [.is (ni n), .any, .any]) (fun _ => b.range) (vr 0) (by omega)) (fun i M h z => by simp at z; rcases z with rfl | rfl <;> cases h) (by decide) (by decide) (by decide) (fun k _ => g_nm 1 (fun _ => nd)) (fun k _ => i_rng (fun _ => b.range) (vr 0) (by omega)) (fun k _ l _ => g_nm 2 (fun _ => nd))
    (fun k _ l _ => (t_ne (vr 1) (vr 2)).tt)
    (fun k _ l _ _ => e_tup (a_2 (vr 1) (vr 2)) len2) (fun k _ l _ => GaLe.refl _) (fun k _ => GaLe.refl _) (fun l hl => by rw [sizeLine_eq]; omega)).known Ml.known
end
end Tf
end
section
/-! Fees; gain. -/
namespace Tf
open PySem PySem.Spec PyProof.Rows L2 Ty
/-- a sixtieth of a whole number of moderate size -/
def Q6 (B : Nat) (q : Rat) : Prop := ∃ m : Int, q = mkRat m 60 ∧ m.natAbs ≤ B
theorem Q6.mono {B C : Nat} {q : Rat} (h : Q6 B q) (hB : B ≤ C) : Q6 C q := let ⟨m, h1, h2⟩ := h; ⟨m, h1, Nat.le_trans h2 hB⟩
theorem Q6.add {B C : Nat} {p q : Rat} (h : Q6 B p) (k : Q6 C q) : Q6 (B + C) (p + q) := by
  obtain ⟨m, rfl, h2⟩ := h
  obtain ⟨n, rfl, k2⟩ := k
  refine ⟨m + n, ?_, by omega⟩
  rw [Rat.mkRat_eq_div, Rat.mkRat_eq_div, Rat.mkRat_eq_div, Rat.intCast_add]
  grind
theorem Q6.neg {B : Nat} {p : Rat} (h : Q6 B p) : Q6 B (-p) := by
  obtain ⟨m, rfl, h2⟩ := h
  exact ⟨-m, by rw [Rat.neg_mkRat], by omega⟩
theorem Q6.sub {B C : Nat} {p q : Rat} (h : Q6 B p) (k : Q6 C q) : Q6 (B + C) (p - q) := by
  rw [Rat.sub_eq_add_neg]
  exact h.add k.neg
theorem Q6.int {B : Nat} {n : Int} (h : n.natAbs ≤ B) : Q6 (60 * B) (n : Rat) := by
  refine ⟨n * 60, ?_, by omega⟩
  rw [Rat.mkRat_eq_div, Rat.intCast_mul]
  grind
theorem Q6.sz {B : Nat} {q : Rat} (h : Q6 B q) (hB : B < 2 ^ 250) : Sz q := by
  obtain ⟨m, rfl, h2⟩ := h
  refine ⟨?_, ?_⟩
  · rw [Rat.num_mkRat, if_neg (by decide)]
    have : (m / ((Nat.gcd 60 m.natAbs : Nat) : Int)).natAbs ≤ m.natAbs := Int.natAbs_ediv_le_natAbs _ _
    omega
  · rw [Rat.den_mkRat, if_neg (by decide)]
    have : 60 / Nat.gcd 60 m.natAbs ≤ 60 := Nat.div_le_self _ _
    exact Nat.lt_of_le_of_lt this (Nat.lt_of_lt_of_le (show 60 < 2 ^ 6 by decide) (Nat.pow_le_pow_right (by decide) (by decide)))
def gainV (rows : List (List Int)) (t : List Nat) (qs : List Rat) (p : Nat × Nat) : Rat := qs.getD p.1 0 - qs.getD p.2 0 - (lossV rows t p.1 p.2 : Rat)
def optP : Option (Nat × Nat) → Pd
  | none => Is .non
  | some p => pairP p
def bestStep (rows : List (List Int)) (t : List Nat) (qs : List Rat) (b : Option (Nat × Nat)) (p : Nat × Nat) : Option (Nat × Nat) := match b with
  | none => some p
  | some b => if gainV rows t qs b < gainV rows t qs p then some p else some b
def bestV (rows : List (List Int)) (t : List Nat) (qs : List Rat) : Option (Nat × Nat) := (liesV rows.length).foldl (bestStep rows t qs) none
theorem lossV_bd {rows : List (List Int)} {t : List Nat} (h : Vd rows t) (k l : Nat) : (lossV rows t k l).natAbs ≤ 2 ^ 81 := by
  have h1 := h.bd k (t.getD k 0)
  have h2 := h.bd k (t.getD l 0)
  unfold lossV
  have : (2 : Nat) ^ 81 = 2 ^ 80 + 2 ^ 80 := by decide
  omega
theorem Q6.loss {rows : List (List Int)} {t : List Nat} (h : Vd rows t) (k l : Nat) : Q6 (2 ^ 90) (lossV rows t k l : Rat) := (Q6.int (lossV_bd h k l)).mono (by decide)
section
variable {P : Program} {w : World} {K : PySem.W.Frag} {mg : Str → Option Value} {base : Heap} {f : Addr} {fd : FuncData} {cR cF cW cU : Addr}
/-! ### Fees( *amounts), its __call__, __len__ -/
theorem scFI : FnScope ["self", "amounts"] ["self", "amounts"] (defScope (inClass (top 19) 0)) := ⟨rfl, rfl, rfl, by decide +kernel, rfl, by decide +kernel, by decide +kernel⟩
abbrev sFI (q : List Rat) : Prop := 1 ≤ q.length ∧ q.length ≤ 6
abbrev spFI (cR cF : Addr) : Sp := spMk cF (fun q : List Rat => q.map (Ra cR)) sFI (feF cR)
theorem body_fi (b : Fb mg) (c : Fc mg) (r : FeF mg K cF) (t : List Rat) (h : sFI t) : BodyOk P w K mg base ["self", "amounts"] "Fees.__init__" (defScope (inClass (top 19) 0)) (defBody (inClass (top 19) 0)) 0 (padG ["self", "amounts"] [.own (Ob cF []), .is (Tp (t.map (Ra cR)))]) (Is .non) (some (Ob cF (feF cR t))) := by
  intro f cdv Ar outer s H E fam
  refine ⟨some [.own (Ob cF (feF cR t)), .is (Tp (t.map (Ra cR)))], ?_, fun Ge e => ⟨fun _ => rfl, by cases e; exact OwnAt.at 0 rfl⟩⟩
  refine b_guard (t_not (t_leLe e_int (e_lenT (fun _ => b.len) (fun _ => rfl) (vr 1)) (e_gc (fun _ => c.mkf)))) (nle (by have := h.1; rw [List.length_map]; omega) (by have := h.2; rw [List.length_map]; omega)) ?_
  exact b_fld (fun _ => rfl) r.isc.cl r.naA (fun _ => pv 0) (e_tupSq (fun _ => b.tuple) (fun _ => rfl) (vr 1) fun _ _ h => Tp.sq h) rfl .own rfl (of_decide_eq_true rfl) (b_nil (GaLe.refl _))
theorem mk_fees (b : Fb mg) (c : Fc mg) (r : FeF mg K cF) (F : FnP K "__init__" "Fees.__init__" (inClass (top 19) 0) f fd) (M : Mk K cF f) : Mkf P w K mg base 1 cF (spFI cR cF) :=
  ⟨f, fn_so F scFI (fun d hd => by rw [List.length_map, sizeLine_eq]; have := hd.2; omega) (fun _ _ _ _ _ _ _ => rfl) (fun _ _ _ _ _ _ _ _ _ => rfl) (fun d hd => body_fi b c r d hd), M⟩
theorem mk_worths (b : Fb mg) (c : Fc mg) (r : WoF mg K cW) (F : FnP K "__init__" "Worths.__init__" (inClass (top 53) 0) f fd) (M : Mk K cW f) : Mkf P w K mg base 1 cW (spWI cW) :=
  ⟨f, fn_so F scWI (fun d hd => by rw [List.length_map, sizeLine_eq]; have := hd.n6; omega) (fun _ _ _ _ _ _ _ => rfl) (fun _ _ _ _ _ _ _ _ _ => rfl) (fun d hd => body_wi b c r d hd), M⟩
theorem scFC : FnScope NRC ["self", "kind"] (defScope (inClass (top 19) 2)) := ⟨rfl, rfl, rfl, by decide +kernel, rfl, by decide +kernel, by decide +kernel⟩
abbrev spFC (cR cF : Addr) : Sp := SpD (fun d : List Rat × Nat => [Fe cR cF d.1, ni d.2]) (fun d => d.2 < d.1.length) (fun d => Ra cR (d.1.getD d.2 0))
theorem body_fc (b : Fb mg) (r : FeF mg K cF) (d : List Rat × Nat) (h : d.2 < d.1.length) : BodyOk P w K mg base NRC "Fees.__call__" (defScope (inClass (top 19) 2)) (defBody (inClass (top 19) 2)) 0 (padG NRC ([Fe cR cF d.1, ni d.2].map .is)) (Ra cR (d.1.getD d.2 0)) none := by
  intro f cdv Ar outer s H E fam
  refine ⟨none, ?_, fun _ h => nomatch h⟩
  refine b_guard (t_not (t_leLt e_int (vr 1) (e_lenT (fun _ => b.len) (fun _ => rfl) (e_amts r (fun _ => rfl) (vr 0))))) (nlt (by omega) (by rw [List.length_map]; omega)) ?_
  exact b_ret (e_ixT (fun _ => rfl) (e_amts r (fun _ => rfl) (vr 0)) (vr 1) (at_map h)) OwnAt.none
theorem scFL : FnScope ["self"] ["self"] (defScope (inClass (top 19) 3)) := ⟨rfl, rfl, rfl, by decide +kernel, rfl, by decide +kernel, by decide +kernel⟩
abbrev spFL (cR cF : Addr) : Sp := SpD (fun t : List Rat => [Fe cR cF t]) (fun _ => True) (fun t => ni t.length)
theorem body_fl (b : Fb mg) (r : FeF mg K cF) (t : List Rat) : BodyOk P w K mg base ["self"] "Fees.__len__" (defScope (inClass (top 19) 3)) (defBody (inClass (top 19) 3)) 0 (padG ["self"] ([Fe cR cF t].map .is)) (ni t.length) none := by
  intro f cdv Ar outer s H E fam
  refine ⟨none, ?_, fun _ h => nomatch h⟩
  exact b_ret ((e_lenT (fun _ => b.len) (fun _ => rfl) (e_amts r (fun _ => rfl) (vr 0))).eq (by rw [List.length_map])) OwnAt.none
/-! ### check_fees, gain -/
abbrev dF := dWR × List Rat
abbrev aF (cR cF cW cU : Addr) (d : dF) : List Pd := [Wo cW d.1.1, Ru cU d.1.2, Fe cR cF d.2]
structure sF (d : dF) : Prop where
  wr : sWR d.1
  len : d.2.length = d.1.1.length
  sz : ∀ k, Q6 (2 ^ 150) (d.2.getD k 0)
abbrev NCF : List Str := ["worths", "rule", "fees"]
theorem scCF : FnScope NCF NCF (defScope (top 22)) := ⟨rfl, rfl, rfl, by decide +kernel, rfl, by decide +kernel, by decide +kernel⟩
abbrev spCF (cR cF cW cU : Addr) : Sp := SpD (aF cR cF cW cU) sF (fun _ => Is .non)
theorem body_cf (b : Fb mg) (rw_ : WoF mg K cW) (CR : Gf P w K mg base 5 "check_rule" (spCR cW cU)) (L : Sf P w K mg base 1 cF "__len__" (spFL cR cF)) (d : dF) (h : sF d) : BodyOk P w K mg base NCF "check_fees" (defScope (top 22)) (defBody (top 22)) 5 (padG NCF ((aF cR cF cW cU d).map .is)) (Is .non) none := by
  intro f cdv Ar outer s H E fam
  refine ⟨some [.is (Wo cW d.1.1), .is (Ru cU d.1.2), .is (Fe cR cF d.2)], ?_, fun Ge e => ⟨fun _ => rfl, OwnAt.none⟩⟩
  refine b_expr (e_gf fam CR d.1 (fun _ => rfl) (a_2 (vr 0) (vr 1)) h.wr) ?_
  exact b_guard (t_ne (e_kinds rw_ (fun _ => rfl) (vr 0)) (e_lenO fam L d.2 rfl trivial rfl (by have := h.len; have := h.wr.rc.n6; omega) (fun _ => b.len) (vr 2))) (by rw [h.len]; simp) (b_nil (GaLe.refl _))
abbrev NGa : List Str := ["worths", "rule", "fees", "kind", "told"]
theorem scGa : FnScope NGa NGa (defScope (top 25)) := ⟨rfl, rfl, rfl, by decide +kernel, rfl, by decide +kernel, by decide +kernel⟩
abbrev dGa := dF × Nat × Nat
abbrev aGa (cR cF cW cU : Addr) (d : dGa) : List Pd := [Wo cW d.1.1.1, Ru cU d.1.1.2, Fe cR cF d.1.2, ni d.2.1, ni d.2.2]
abbrev sGa (d : dGa) : Prop := sF d.1 ∧ d.2.1 < d.1.1.1.length ∧ d.2.2 < d.1.1.1.length
abbrev gaV (d : dF) (p : Nat × Nat) : Rat := gainV d.1.1 d.1.2 d.2 p
abbrev spGa (cR cF cW cU : Addr) : Sp := SpD (aGa cR cF cW cU) sGa (fun d => Ra cR (gaV d.1 d.2))
theorem gaV_sz {d : dF} (h : sF d) (p : Nat × Nat) : Q6 (2 ^ 160) (gaV d p) := by
  have := ((h.sz p.1).sub (h.sz p.2)).sub (Q6.loss h.wr p.1 p.2)
  exact this.mono (by decide)
structure RaM (P : Program) (w : World) (K : PySem.W.Frag) (mg : Str → Option Value) (base : Heap) (cR : Addr) : Prop where
  f : RaF mg K cR
  first : PySem.W.selfFirst K cR = true
  made : Mkf P w K mg base 2 cR (spInit cR)
  whole : Cm P w K mg base 4 cR "whole" (spWhole cR)
  add : Sf P w K mg base 4 cR "__add__" (spAdd cR)
  sub : Sf P w K mg base 4 cR "__sub__" (spSub cR)
  neg : Sf P w K mg base 4 cR "__neg__" (spNeg cR)
  eq : Sf P w K mg base 1 cR "__eq__" (spEq cR)
  ne : Nef P w K mg base 1 cR (spEq cR)
  under : Mf P w K mg base 1 cR "under" (spUnder cR)
section
variable {ι : Type} {X : ι → Cx} {Ga Gb Gc : List Sl} {e1 e2 : Expr} {pos p1 p2 p3 : Pos} {a b' : Rat} {j : Nat} {n : Int}
theorem e_radd (fam : Fam X P w K mg base j) (r : RaM P w K mg base cR) (ha : TyE X Ga e1 (Ra cR a) Gb) (hb : TyE X Gb e2 (Ra cR b') Gc) (h1 : Sz a) (h2 : Sz b') (hk : 4 ≤ j := by decide) : TyE X Ga (.BinOp e1 .Add e2 pos) (Ra cR (a + b')) Gc := e_bin2 (op := .Add) (A := aTwo cR) (S := sTwo) fam r.add r.first (a, b') rfl ⟨h1, h2⟩ ha hb hk
theorem e_rsub (fam : Fam X P w K mg base j) (r : RaM P w K mg base cR) (ha : TyE X Ga e1 (Ra cR a) Gb) (hb : TyE X Gb e2 (Ra cR b') Gc) (h1 : Sz a) (h2 : Sz b') (hk : 4 ≤ j := by decide) : TyE X Ga (.BinOp e1 .Sub e2 pos) (Ra cR (a - b')) Gc := e_bin2 (op := .Sub) (A := aTwo cR) (S := sTwo) fam r.sub r.first (a, b') rfl ⟨h1, h2⟩ ha hb hk
theorem e_rneg (fam : Fam X P w K mg base j) (r : RaM P w K mg base cR) (ha : TyE X Ga e1 (Ra cR a) Gb) (h1 : Sz a) (hk : 4 ≤ j := by decide) : TyE X Ga (.UnaryOp .USub e1 pos) (Ra cR (-a)) Gb := e_neg1 fam r.neg a rfl h1 ha hk
theorem e_rwhole {pl : ι → Sem Bool} (fam : Fam X P w K mg base j) (r : RaM P w K mg base cR) (ha : TyE X Ga e1 (IsI n) Gb) (hk : 4 ≤ j := by decide) (hg : ∀ i, Gl (X i) "Ratio" := by intro i; rfl)
    (hst : ∀ i, starEach [e1] (X i).env = (false, eval e1 (X i).env) :: starEach [] (X i).env := by intro i; rfl) (hpl : ∀ i, (backTo pos (starEach [] (X i).env)).any (·.1) = false := by intro i; rfl)
    (ht : ∀ i, eval (.Call (.Attribute (.Name "Ratio" p1) "whole" p2) [e1] [] pos) (X i).env = (do
      let ov ← eval (.Name "Ratio" p1) (X i).env
      standAt p2.atName
      let (f, first) ← holding [ov] (getMethod ov "whole" (pl i))
      callWith pos f first (backTo pos (starEach [e1] (X i).env)) (backToKw pos (keywordEach [] (X i).env))) := by intro i; rfl) :
    TyE X Ga (.Call (.Attribute (.Name "Ratio" p1) "whole" p2) [e1] [] pos) (Ra cR (n : Rat)) Gb := e_cm (pl := pl) fam r.whole n (e_cls (fun i => by rw [fam.mg i]; exact r.f.glo) hg) (a_1 ha hst) rfl trivial hk hst hpl ht
theorem e_runder {pl : ι → Sem Bool} (fam : Fam X P w K mg base j) (r : RaM P w K mg base cR) (ha : TyE X Ga e1 (Ra cR a) Gb) (hb : TyE X Gb e2 (Ra cR b') Gc) (h1 : Sz a) (h2 : Sz b') (hk : 1 ≤ j := by decide)
    (hst : ∀ i, starEach [e2] (X i).env = (false, eval e2 (X i).env) :: starEach [] (X i).env := by intro i; rfl) (hpl : ∀ i, (backTo pos (starEach [] (X i).env)).any (·.1) = false := by intro i; rfl)
    (ht : ∀ i, eval (.Call (.Attribute e1 "under" p2) [e2] [] pos) (X i).env = (do
      let ov ← eval e1 (X i).env
      standAt p2.atName
      let (f, first) ← holding [ov] (getMethod ov "under" (pl i))
      callWith pos f first (backTo pos (starEach [e2] (X i).env)) (backToKw pos (keywordEach [] (X i).env))) := by intro i; rfl) :
    TyE X Ga (.Call (.Attribute e1 "under" p2) [e2] [] pos) (IsB (decide (a < b'))) Gc := e_meth (pl := pl) fam r.under (a, b') ha (a_1 hb hst) rfl ⟨h1, h2⟩ rfl hk hst hpl ht
end
theorem body_ga (r : RaM P w K mg base cR) (CF : Gf P w K mg base 6 "check_fees" (spCF cR cF cW cU)) (LO : Gf P w K mg base 6 "loss" (spLo cW cU)) (cf : Cof P w K mg base 1 cF (spFC cR cF)) (d : dGa) (h : sGa d) :
    BodyOk P w K mg base NGa "gain" (defScope (top 25)) (defBody (top 25)) 6 (padG NGa ((aGa cR cF cW cU d).map .is)) (Ra cR (gaV d.1 d.2)) none := by
  intro f cdv Ar outer s H E fam
  refine ⟨none, ?_, fun _ h => nomatch h⟩
  have hs := h.1
  refine b_expr (e_gf fam CF d.1 (fun _ => rfl) (a_cons (vr 0) (a_2 (vr 1) (vr 2))) hs) ?_
  have z1 := hs.sz d.2.1
  have z2 := hs.sz d.2.2
  have zl := Q6.loss hs.wr d.2.1 d.2.2
  exact b_ret (e_rsub fam r (e_rsub fam r (e_callOb fam cf (d.1.2, d.2.1) (vr 2) (a_1 (vr 3)) rfl (by rw [hs.len]; exact h.2.1)) (e_callOb fam cf (d.1.2, d.2.2) (vr 2) (a_1 (vr 4)) rfl (by rw [hs.len]; exact h.2.2)) (z1.sz (by decide)) (z2.sz (by decide)))
    (e_rwhole fam r (e_gf fam LO (d.1.1, d.2) (fun _ => rfl) (a_cons (vr 0) (a_cons (vr 1) (a_2 (vr 3) (vr 4)))) ⟨hs.wr, h.2⟩)) ((z1.sub z2).sz (by decide)) (zl.sz (by decide))) OwnAt.none
end
end Tf
end
section
/-! best_lie, most_gain, is_true. -/
namespace Tf
open PySem PySem.Spec PyProof.Rows L2 Ty
theorem mem_lies {n : Nat} {p : Nat × Nat} : p ∈ liesV n ↔ p.1 < n ∧ p.2 < n ∧ p.1 ≠ p.2 := by
  unfold liesV
  rw [List.mem_flatMap]
  constructor
  · rintro ⟨k, hk, h⟩
    rw [List.mem_map] at h
    obtain ⟨l, hl, rfl⟩ := h
    rw [List.mem_filter] at hl
    obtain ⟨h1, h2⟩ := hl
    exact ⟨List.mem_range.mp hk, List.mem_range.mp h1, by simpa using h2⟩
  · rintro ⟨h1, h2, h3⟩
    exact ⟨p.1, List.mem_range.mpr h1, List.mem_map.mpr ⟨p.2, List.mem_filter.mpr ⟨List.mem_range.mpr h2, by simpa using h3⟩, rfl⟩⟩
section
variable {P : Program} {w : World} {K : PySem.W.Frag} {mg : Str → Option Value} {base : Heap} {f : Addr} {fd : FuncData} {cR cF cW cU : Addr}
abbrev NBL : List Str := ["worths", "rule", "fees", "best", "kind", "told"]
theorem scBL : FnScope NBL ["worths", "rule", "fees"] (defScope (top 27)) := ⟨rfl, rfl, rfl, by decide +kernel, rfl, by decide +kernel, by decide +kernel⟩
abbrev blV (d : dF) : Option (Nat × Nat) := bestV d.1.1 d.1.2 d.2
abbrev spBL (cR cF cW cU : Addr) : Sp := SpD (aF cR cF cW cU) sF (fun d => optP (blV d))
theorem optP_ref {p : Nat × Nat} {v : V} {G : Hp} (h : (pairP p).p v G) : v ≠ .non := by
  obtain ⟨a, xs, rfl, _⟩ := h
  exact fun h => nomatch h
structure GaM (P : Program) (w : World) (K : PySem.W.Frag) (mg : Str → Option Value) (base : Heap) (cR cF cW cU : Addr) : Prop where
  ga : Gf P w K mg base 7 "gain" (spGa cR cF cW cU)
  li : Gf P w K mg base 1 "lies" spLies
  cf : Gf P w K mg base 6 "check_fees" (spCF cR cF cW cU)
  cr : Gf P w K mg base 5 "check_rule" (spCR cW cU)
  ck : Gf P w K mg base 1 "check_kinds" (spCK cW)
  lo : Gf P w K mg base 6 "loss" (spLo cW cU)
theorem body_bl (r : RaM P w K mg base cR) (rw_ : WoF mg K cW) (m : GaM P w K mg base cR cF cW cU) (d : dF) (h : sF d) : BodyOk P w K mg base NBL "best_lie" (defScope (top 27)) (defBody (top 27)) 7 (padG NBL ((aF cR cF cW cU d).map .is)) (optP (blV d)) none := by
  intro f cdv Ar outer s H E fam
  have nd := scBL.nd
  refine ⟨none, ?_, fun _ h => nomatch h⟩
  refine b_expr (e_gf fam m.cf d (fun _ => rfl) (a_cons (vr 0) (a_2 (vr 1) (vr 2))) h) ?_
  refine b_st 3 (fun _ => nd) e_non ?_
  refine b_forF (liesV d.1.1.length) pairP (fun s => [.is (Wo cW d.1.1), .is (Ru cU d.1.2), .is (Fe cR cF d.2), .is (optP s), .any, .any]) (fun s p => [.is (Wo cW d.1.1), .is (Ru cU d.1.2), .is (Fe cR cF d.2), .is (optP s), .is (ni p.1), .is (ni p.2)]) (bestStep d.1.1 d.1.2 d.2) none (fun _ s => ∀ b, s = some b → b.1 < d.1.1.length ∧ b.2 < d.1.1.length) (fun _ h => nomatch h) (fun _ => rfl) (fun _ => rfl)
    (i_list (fun _ => rfl) (e_gf fam m.li d.1.1.length (fun _ => rfl) (a_1 (e_kinds rw_ (fun _ => rfl) (vr 0))) h.wr.rc.n6)) (fun s p _ => g_pr 4 5 (fun _ => rfl) (fun _ => rfl) (fun _ => nd)) (fun _ s p hp hs _ => ?_) (fun _ s p hp hs _ => ?_) fun _ => b_ret (vr 3) OwnAt.none
  · have hp' := mem_lies.mp hp
    cases s with
    | none =>
      refine b_if (b := true) (t_w ((w_or (b1 := true) (b2 := false) ((t_isN (vr 3)).eq rfl) (fun h => nomatch h) (fun _ => GaLe.refl _)))) (fun _ => b_st 3 (fun _ => nd) (e_tup (a_2 (vr 4) (vr 5)) len2) (b_nil ?_)) (fun h => nomatch h) (b_nil (GaLe.refl _))
      exact .cons .rfl (.cons .rfl (.cons .rfl (.cons .rfl (.cons .any (.cons .any .nil)))))
    | some b =>
      have hb := hs b rfl
      have g1 := gaV_sz h b
      have g2 := gaV_sz h p
      refine b_if (t_w (w_or (t_isN' (vr 3) fun v G => optP_ref) (fun _ => w_or1 (t_val (e_runder fam r (e_gfS fam m.ga (d, b) (fun _ => rfl) (a_cons (vr 0) (a_cons (vr 1) (a_cons (vr 2) (a_star (fun _ => rfl) ((vr 3 (P := pairP b)).conv fun _ _ h => Tp.sq h) a_nil)))) ⟨h, hb⟩)
        (e_gf fam m.ga (d, p) (fun _ => rfl) (a_cons (vr 0) (a_cons (vr 1) (a_cons (vr 2) (a_2 (vr 4) (vr 5))))) ⟨h, hp'.1, hp'.2.1⟩) (g1.sz (by decide)) (g2.sz (by decide))))) (fun h => nomatch h))) (fun hc => b_st 3 (fun _ => nd) (e_tup (a_2 (vr 4) (vr 5)) len2) (b_nil ?_)) (fun hc => b_nil ?_) (b_nil (GaLe.refl _))
      · have : bestStep d.1.1 d.1.2 d.2 (some b) p = some p := if_pos (of_decide_eq_true (by simpa using hc))
        rw [this]
        exact .cons .rfl (.cons .rfl (.cons .rfl (.cons .rfl (.cons .any (.cons .any .nil)))))
      · have : bestStep d.1.1 d.1.2 d.2 (some b) p = some b := if_neg (of_decide_eq_false (by simpa using hc))
        rw [this]
        exact .cons .rfl (.cons .rfl (.cons .rfl (.cons .rfl (.cons .any (.cons .any .nil)))))
  · have hp' := mem_lies.mp hp
    intro b hb
    cases s with
    | none => cases hb; exact ⟨hp'.1, hp'.2.1⟩
    | some c =>
      have hb : (if gainV d.1.1 d.1.2 d.2 c < gainV d.1.1 d.1.2 d.2 p then some p else some c) = some b := hb
      by_cases hc : gainV d.1.1 d.1.2 d.2 c < gainV d.1.1 d.1.2 d.2 p
      · rw [if_pos hc] at hb; cases hb; exact ⟨hp'.1, hp'.2.1⟩
      · rw [if_neg hc] at hb; exact hs b hb
end
theorem best_spec {rows : List (List Int)} {t : List Nat} {qs : List Rat} : ∀ (ps : List (Nat × Nat)) (s : Option (Nat × Nat)),
    (ps.foldl (bestStep rows t qs) s = none → s = none ∧ ps = []) ∧ ∀ b, ps.foldl (bestStep rows t qs) s = some b → (b ∈ ps ∨ s = some b) ∧ (∀ p ∈ ps, gainV rows t qs p ≤ gainV rows t qs b) ∧ ∀ p, s = some p → gainV rows t qs p ≤ gainV rows t qs b
  | [], s => ⟨fun h => ⟨h, rfl⟩, fun b h => ⟨.inr h, fun p hp => (by cases hp), fun p hp => by
      have h' : s = some b := h
      rw [hp] at h'; cases h'; exact Rat.le_refl⟩⟩
  | p :: ps, s => by
    have ih := best_spec (rows := rows) (t := t) (qs := qs) ps (bestStep rows t qs s p)
    have hne : bestStep rows t qs s p ≠ none := by
      cases s with
      | none => exact fun h => nomatch h
      | some c =>
        show (if gainV rows t qs c < gainV rows t qs p then some p else some c) ≠ none
        split <;> exact fun h => nomatch h
    refine ⟨fun h => absurd (ih.1 h).1 hne, fun b h => ?_⟩
    obtain ⟨h1, h2, h3⟩ := ih.2 b h
    cases s with
    | none =>
      have h3' := h3 p rfl
      refine ⟨?_, fun x hx => ?_, fun x hx => nomatch hx⟩
      · rcases h1 with h1 | h1
        · exact .inl (List.mem_cons_of_mem _ h1)
        · have h1 : some p = some b := h1
          cases h1; exact .inl List.mem_cons_self
      · rcases List.mem_cons.mp hx with rfl | hx
        · exact h3'
        · exact h2 x hx
    | some c =>
      by_cases hc : gainV rows t qs c < gainV rows t qs p
      · have e : bestStep rows t qs (some c) p = some p := if_pos hc
        rw [e] at h1 h3
        have h3' := h3 p rfl
        refine ⟨?_, fun x hx => ?_, fun x hx => ?_⟩
        · rcases h1 with h1 | h1
          · exact .inl (List.mem_cons_of_mem _ h1)
          · cases h1; exact .inl List.mem_cons_self
        · rcases List.mem_cons.mp hx with rfl | hx
          · exact h3'
          · exact h2 x hx
        · cases hx; exact Rat.le_trans (Rat.le_of_lt hc) h3'
      · have e : bestStep rows t qs (some c) p = some c := if_neg hc
        rw [e] at h1 h3
        have h3' := h3 c rfl
        refine ⟨?_, fun x hx => ?_, fun x hx => ?_⟩
        · rcases h1 with h1 | h1
          · exact .inl (List.mem_cons_of_mem _ h1)
          · exact .inr h1
        · rcases List.mem_cons.mp hx with rfl | hx
          · exact Rat.le_trans (Rat.not_lt.mp hc) h3'
          · exact h2 x hx
        · cases hx; exact h3'
theorem bl_none {rows : List (List Int)} {t : List Nat} {qs : List Rat} (h : bestV rows t qs = none) : liesV rows.length = [] := ((best_spec _ _).1 h).2
theorem bl_some {rows : List (List Int)} {t : List Nat} {qs : List Rat} {b : Nat × Nat} (h : bestV rows t qs = some b) : b ∈ liesV rows.length ∧ ∀ p ∈ liesV rows.length, gainV rows t qs p ≤ gainV rows t qs b := by
  obtain ⟨h1, h2, _⟩ := (best_spec _ _).2 b h
  exact ⟨h1.resolve_right (fun z => nomatch z), h2⟩
theorem bl_two {rows : List (List Int)} {t : List Nat} {qs : List Rat} (h : 2 ≤ rows.length) : ∃ b, bestV rows t qs = some b := by
  cases e : bestV rows t qs with
  | some b => exact ⟨b, rfl⟩
  | none =>
    have h0 := bl_none e
    have : (0, 1) ∈ liesV rows.length := mem_lies.mpr ⟨by omega, by show 1 < _; omega, by decide⟩
    rw [h0] at this
    cases this
def mgV (d : dF) : Rat := match blV d with
  | none => 0
  | some b => gaV d b
def isTV (d : dF) : Bool := match blV d with
  | none => true
  | some b => !decide ((0 : Rat) < gaV d b)
section
variable {P : Program} {w : World} {K : PySem.W.Frag} {mg : Str → Option Value} {base : Heap} {f : Addr} {fd : FuncData} {cR cF cW cU : Addr}
abbrev NMG : List Str := ["worths", "rule", "fees", "best"]
theorem scMG : FnScope NMG ["worths", "rule", "fees"] (defScope (top 28)) := ⟨rfl, rfl, rfl, by decide +kernel, rfl, by decide +kernel, by decide +kernel⟩
theorem scIT : FnScope NMG ["worths", "rule", "fees"] (defScope (top 29)) := ⟨rfl, rfl, rfl, by decide +kernel, rfl, by decide +kernel, by decide +kernel⟩
abbrev sMG (d : dF) : Prop := sF d ∧ 2 ≤ d.1.1.length
abbrev spMG (cR cF cW cU : Addr) : Sp := SpD (aF cR cF cW cU) sMG (fun d => Ra cR (mgV d))
abbrev spIT (cR cF cW cU : Addr) : Sp := SpD (aF cR cF cW cU) sF (fun d => IsB (isTV d))
theorem body_mg (m : GaM P w K mg base cR cF cW cU) (BL : Gf P w K mg base 8 "best_lie" (spBL cR cF cW cU)) (d : dF) (h : sMG d) : BodyOk P w K mg base NMG "most_gain" (defScope (top 28)) (defBody (top 28)) 8 (padG NMG ((aF cR cF cW cU d).map .is)) (Ra cR (mgV d)) none := by
  intro f cdv Ar outer s H E fam
  have nd := scMG.nd
  refine ⟨none, ?_, fun _ h => nomatch h⟩
  obtain ⟨b, hb⟩ := bl_two (rows := d.1.1) (t := d.1.2) (qs := d.2) h.2
  have hm := mem_lies.mp (bl_some hb).1
  have hR : optP (blV d) = pairP b := by show optP (bestV d.1.1 d.1.2 d.2) = _; rw [hb]; rfl
  have hV : mgV d = gaV d b := by unfold mgV; show (match bestV d.1.1 d.1.2 d.2 with | none => _ | some b => _) = _; rw [hb]
  rw [hV]
  refine b_st 3 (fun _ => nd) (P := pairP b) ((e_gf fam BL d (fun _ => rfl) (a_cons (vr 0) (a_2 (vr 1) (vr 2))) h.1).eq hR) ?_
  refine b_guard (t_isN' (vr 3) fun v G => optP_ref) rfl ?_
  exact b_ret (e_gf fam m.ga (d, b) (fun _ => rfl) (a_cons (vr 0) (a_cons (vr 1) (a_cons (vr 2) (a_2 (e_ixT (Ps := [ni b.1, ni b.2]) (fun _ => rfl) (vr 3) e_int (Ty.atI_nat (k := 0) rfl)) (e_ixT (Ps := [ni b.1, ni b.2]) (fun _ => rfl) (vr 3) e_int (Ty.atI_nat (k := 1) rfl)))))) ⟨h.1, hm.1, hm.2.1⟩) OwnAt.none
theorem body_it (r : RaM P w K mg base cR) (m : GaM P w K mg base cR cF cW cU) (BL : Gf P w K mg base 8 "best_lie" (spBL cR cF cW cU)) (d : dF) (h : sF d) : BodyOk P w K mg base NMG "is_true" (defScope (top 29)) (defBody (top 29)) 8 (padG NMG ((aF cR cF cW cU d).map .is)) (IsB (isTV d)) none := by
  intro f cdv Ar outer s H E fam
  have nd := scMG.nd
  refine ⟨none, ?_, fun _ h => nomatch h⟩
  cases hb : bestV d.1.1 d.1.2 d.2 with
  | none =>
    have hR : optP (blV d) = Is .non := by show optP (bestV d.1.1 d.1.2 d.2) = _; rw [hb]; rfl
    have hV : isTV d = true := by unfold isTV; show (match bestV d.1.1 d.1.2 d.2 with | none => _ | some b => _) = _; rw [hb]
    rw [hV]
    refine b_st 3 (fun _ => nd) (P := Is .non) ((e_gf fam BL d (fun _ => rfl) (a_cons (vr 0) (a_2 (vr 1) (vr 2))) h).eq hR) ?_
    exact b_ret (e_or (b1 := true) (b2 := true) ((v_isN (vr 3)).eq rfl) (fun h => nomatch h) (fun _ => GaLe.refl _)) OwnAt.none
  | some b =>
    have hm := mem_lies.mp (bl_some hb).1
    have hR : optP (blV d) = pairP b := by show optP (bestV d.1.1 d.1.2 d.2) = _; rw [hb]; rfl
    have hV : isTV d = (false || !decide (((0 : Int) : Rat) < gaV d b)) := by unfold isTV; show (match bestV d.1.1 d.1.2 d.2 with | none => _ | some b => _) = _; rw [hb]; rfl
    rw [hV]
    refine b_st 3 (fun _ => nd) (P := pairP b) ((e_gf fam BL d (fun _ => rfl) (a_cons (vr 0) (a_2 (vr 1) (vr 2))) h).eq hR) ?_
    refine b_ret (e_or (b1 := false) (e_cmp (fun _ => op_isN) (vr 3) e_non (o_isN' fun v G => optP_ref) (by first | exact nomark _ | rfl)) (fun _ => e_one (e_not (e_runder fam r (e_rwhole fam r e_int) (e_gf fam m.ga (d, b) (fun _ => rfl) (a_cons (vr 0) (a_cons (vr 1) (a_cons (vr 2) (a_2 (e_ixT (Ps := [ni b.1, ni b.2]) (fun _ => rfl) (vr 3) e_int (Ty.atI_nat (k := 0) rfl)) (e_ixT (Ps := [ni b.1, ni b.2]) (fun _ => rfl) (vr 3) e_int (Ty.atI_nat (k := 1) rfl)))))) ⟨h, hm.1, hm.2.1⟩) ⟨by decide, by decide⟩ ((gaV_sz h b).sz (by decide))))) (fun h => nomatch h)) OwnAt.none
end
end Tf
end
section
/-! ring_sum. -/
namespace Tf
open PySem PySem.Spec PyProof.Rows L2 Ty
theorem map_ni (ring : List Nat) : ring.map ni = (ring.map fun k : Nat => (k : Int)).map IsI := by rw [List.map_map]; rfl
def ringV (rows : List (List Int)) (t : List Nat) (ring : List Nat) : Int := (ring.zipIdx.map fun z => lossV rows t z.1 (ring.getD ((z.2 + 1) % ring.length) 0)).sum
section
variable {P : Program} {w : World} {K : PySem.W.Frag} {mg : Str → Option Value} {base : Heap} {f : Addr} {fd : FuncData} {cR cF cW cU : Addr}
abbrev NRS : List Str := ["worths", "rule", "ring", "at", "kind"]
theorem scRS : FnScope NRS ["worths", "rule", "ring"] (defScope (top 30)) := ⟨rfl, rfl, rfl, by decide +kernel, rfl, by decide +kernel, by decide +kernel⟩
abbrev dRS := dWR × List Nat
structure sRS (d : dRS) : Prop where
  wr : sWR d.1
  two : 2 ≤ d.2.length
  six : d.2.length ≤ 6
  lt : ∀ k ∈ d.2, k < d.1.1.length
  nd : d.2.Nodup
abbrev aRS (cW cU : Addr) (d : dRS) : List Pd := [Wo cW d.1.1, Ru cU d.1.2, Tp (d.2.map ni)]
abbrev spRS (cW cU : Addr) : Sp := SpD (aRS cW cU) sRS (fun d => IsI (ringV d.1.1 d.1.2 d.2))
theorem body_rs (b : Fb mg) (m : GaM P w K mg base cR cF cW cU) (d : dRS) (h : sRS d) : BodyOk P w K mg base NRS "ring_sum" (defScope (top 30)) (defBody (top 30)) 7 (padG NRS ((aRS cW cU d).map .is)) (IsI (ringV d.1.1 d.1.2 d.2)) none := by
  intro f cdv Ar outer s H E fam
  have nd := scRS.nd
  have hl : (d.2.map ni).length = d.2.length := List.length_map _
  refine ⟨none, ?_, fun _ h => nomatch h⟩
  refine b_expr (e_gf fam m.cr d.1 (fun _ => rfl) (a_2 (vr 0) (vr 1)) h.wr) ?_
  refine b_guard (t_lt (e_lenT (fun _ => b.len) (fun _ => rfl) (vr 2)) e_int) (decide_eq_false (by have := h.two; rw [hl]; omega)) ?_
  refine b_forF d.2.zipIdx (fun z => Tp [IsI (z.2 : Nat), ni z.1]) (fun _ : Unit => [.is (Wo cW d.1.1), .is (Ru cU d.1.2), .is (Tp (d.2.map ni)), .any, .any]) (fun _ z => [.is (Wo cW d.1.1), .is (Ru cU d.1.2), .is (Tp (d.2.map ni)), .is (IsI (z.2 : Nat)), .is (ni z.1)]) (fun _ _ => ()) () (fun _ _ => True) trivial (fun _ => rfl) (fun _ => rfl)
    (i_enT (fun _ => rfl) (fun _ => b.enum) (vr 2)) (fun _ z _ => g_pr 3 4 (fun _ => rfl) (fun _ => rfl) (fun _ => nd)) (fun _ _ z hz _ _ => ?_) (fun _ _ _ _ _ _ => trivial) fun _ => ?_
  · have hz' := List.mem_zipIdx_iff_getElem?.mp hz
    have hm : z.1 ∈ d.2 := List.mem_of_getElem? hz'
    refine b_expr (e_gf fam m.ck (d.1.1, [z.1]) (fun _ => rfl) (a_2 (vr 0) (e_lst (a_1 (vr 4)) len1)) (by intro k hk; rw [List.mem_singleton.mp hk]; exact h.lt _ hm)) ?_
    have e1 : cutL (d.2.map ni) none (some ((z.2 : Nat) : Int)) = ((d.2.take z.2).map fun k : Nat => (k : Int)).map IsI := by
      rw [cutL_map, cut_to, map_ni]
    refine b_guard (t_in (ns := (d.2.take z.2).map fun k : Nat => (k : Int)) (fun _ => rfl) (vr 4) (TyE.conv (TyE.eq (e_slT (fun _ => rfl) (vr 2) o_non (o_som (vr 3))) (by rw [e1])) fun _ _ h => Tp.sq h)) (decide_eq_false fun hi => ?_) (b_nil (.cons .rfl (.cons .rfl (.cons .rfl (.cons .any (.cons .any .nil))))))
    obtain ⟨k, hk, ek⟩ := List.mem_map.mp hi
    have : k = z.1 := by omega
    subst this
    obtain ⟨j, hj⟩ := List.getElem?_of_mem hk
    rw [List.getElem?_take] at hj
    split at hj
    · rename_i hlt
      have := (List.getElem?_inj (by have := (List.getElem?_eq_some_iff.mp hj).1; omega) h.nd).mp (hj.trans hz'.symm)
      omega
    · cases hj
  · refine b_ret (e_sum (ns := d.2.zipIdx.map fun z => lossV d.1.1 d.1.2 z.1 (d.2.getD ((z.2 + 1) % d.2.length) 0)) (fun _ => rfl) (fun _ => b.sum) (fun _ => rfl) (TyE.eq (e_lcP (ds := d.2.zipIdx) (P1 := fun z => IsI (z.2 : Nat)) (P2 := fun z => ni z.1) (f := fun z => IsI (lossV d.1.1 d.1.2 z.1 (d.2.getD ((z.2 + 1) % d.2.length) 0))) 3 4 (by decide) (fun _ => rfl) (fun _ => nd) (fun _ => rfl) (i_enT (it := ni) (fun _ => rfl) (fun _ => b.enum) (vr 2)) (fun z hz => ?_) (by rw [List.length_zipIdx, sizeLine_eq]; have := h.six; omega) (fun i M hi => ⟨fun z => (by subst z; cases hi), fun z => (by subst z; cases hi)⟩) (fun _ => g_pr 3 4 (fun _ => rfl) (fun _ => rfl) (fun _ => nd))) (by rw [List.map_map]; rfl))) OwnAt.none
    have hz' := List.mem_zipIdx_iff_getElem?.mp hz
    have hm : z.1 ∈ d.2 := List.mem_of_getElem? hz'
    have h2 : (z.2 + 1) % d.2.length < d.2.length := Nat.mod_lt _ (by have := h.two; omega)
    have hm2 : d.2.getD ((z.2 + 1) % d.2.length) 0 ∈ d.2 := by
      rw [List.getD_eq_getElem?_getD, List.getElem?_eq_getElem h2]
      exact List.getElem_mem h2
    refine e_gf (fam.blk) m.lo (d.1, z.1, d.2.getD ((z.2 + 1) % d.2.length) 0) (fun _ => rfl) (a_cons (vr 0) (a_cons (vr 1) (a_2 (vr 4) (e_ixT (fun _ => rfl) (vr 2) (TyE.eq (e_mod (e_add (vr 3) e_int) (e_lenT (fun _ => b.len) (fun _ => rfl) (vr 2)) (by rw [hl]; have := h.two; omega)) ?_) (at_map (d := 0) h2))))) ⟨h.wr, h.lt _ hm, h.lt _ hm2⟩
    rw [hl]
    rw [Int.natCast_emod, Int.natCast_add]
    rfl
end
end Tf
end
section
/-! check_two, rounds. -/
namespace Tf
open PySem PySem.Spec PyProof.Rows L2 Ty
def befV (n last : Nat) : List Nat := (List.range n).filter fun k => !decide ((k : Int) = (last : Int))
def stepV (L : Nat → Nat → Int) (n : Nat) (prev : List Int) (last : Nat) : Int := minI ((befV n last).map fun k => prev.getD k 0 + L k last)
def rdV (L : Nat → Nat → Int) (n : Nat) : Nat → List Int
  | 0 => List.replicate n 0
  | t + 1 => (List.range n).map (stepV L n (rdV L n t))
def roundsV (L : Nat → Nat → Int) (n : Nat) : List (List Int) := (List.range (n + 1)).map (rdV L n)
theorem rdV_len (L : Nat → Nat → Int) (n : Nat) : ∀ t, (rdV L n t).length = n
  | 0 => List.length_replicate
  | t + 1 => by
    show ((List.range n).map _).length = n
    rw [List.length_map, List.length_range]
theorem mem_bef {n last k : Nat} : k ∈ befV n last ↔ k < n ∧ k ≠ last := by
  unfold befV
  rw [List.mem_filter, List.mem_range]
  constructor
  · rintro ⟨h1, h2⟩
    refine ⟨h1, fun z => ?_⟩
    subst z
    simp at h2
  · rintro ⟨h1, h2⟩
    refine ⟨h1, ?_⟩
    rw [decide_eq_false (by omega)]
    rfl
theorem bef_pos {n last : Nat} (h : 2 ≤ n) : 0 < (befV n last).length := by
  have : ∃ k, k ∈ befV n last := by
    by_cases h0 : last = 0
    · exact ⟨1, mem_bef.mpr ⟨by omega, by omega⟩⟩
    · exact ⟨0, mem_bef.mpr ⟨by omega, by omega⟩⟩
  obtain ⟨k, hk⟩ := this
  exact List.length_pos_of_mem hk
theorem bef_len {n last : Nat} : (befV n last).length ≤ n := by
  have := List.length_filter_le (fun k : Nat => !decide ((k : Int) = (last : Int))) (List.range n)
  rw [List.length_range] at this
  exact this
section
variable {P : Program} {w : World} {K : PySem.W.Frag} {mg : Str → Option Value} {base : Heap} {f : Addr} {fd : FuncData} {cR cF cW cU : Addr}
abbrev sC2 (d : dWR) : Prop := sWR d ∧ 2 ≤ d.1.length
abbrev LV (d : dWR) : Nat → Nat → Int := lossV d.1 d.2
theorem scC2 : FnScope ["worths", "rule"] ["worths", "rule"] (defScope (top 43)) := ⟨rfl, rfl, rfl, by decide +kernel, rfl, by decide +kernel, by decide +kernel⟩
abbrev spC2 (cW cU : Addr) : Sp := SpD (aWR cW cU) sC2 (fun _ => Is .non)
theorem body_c2 (rw_ : WoF mg K cW) (m : GaM P w K mg base cR cF cW cU) (d : dWR) (h : sC2 d) : BodyOk P w K mg base ["worths", "rule"] "check_two" (defScope (top 43)) (defBody (top 43)) 5 (padG ["worths", "rule"] ((aWR cW cU d).map .is)) (Is .non) none := by
  intro f cdv Ar outer s H E fam
  refine ⟨some [.is (Wo cW d.1), .is (Ru cU d.2)], ?_, fun Ge e => ⟨fun _ => rfl, OwnAt.none⟩⟩
  refine b_expr (e_gf fam m.cr d (fun _ => rfl) (a_2 (vr 0) (vr 1)) h.1) ?_
  exact b_guard (t_lt (e_kinds rw_ (fun _ => rfl) (vr 0)) e_int) (decide_eq_false (by have := h.2; omega)) (b_nil (GaLe.refl _))
abbrev NRo : List Str := ["worths", "rule", "found", "turn", "row", "last", "before", "kind"]
theorem scRo : FnScope NRo ["worths", "rule"] (defScope (top 44)) := ⟨rfl, rfl, rfl, by decide +kernel, rfl, by decide +kernel, by decide +kernel⟩
abbrev spRo (cW cU : Addr) : Sp := SpD (aWR cW cU) sC2 (fun d => Ls ((roundsV (LV d) d.1.length).map rowP))
theorem last_app {α : Type} {l : List α} {a : α} : (l ++ [a]).getLast? = some a := by simp
theorem body_ro (b : Fb mg) (rw_ : WoF mg K cW) (m : GaM P w K mg base cR cF cW cU) (d : dWR) (h : sC2 d) : BodyOk P w K mg base NRo "rounds" (defScope (top 44)) (defBody (top 44)) 7 (padG NRo ((aWR cW cU d).map .is)) (Ls ((roundsV (LV d) d.1.length).map rowP)) none := by
  intro f cdv Ar outer s H E fam
  have nd := scRo.nd
  have n6 := h.1.rc.n6
  refine ⟨none, ?_, fun _ h => nomatch h⟩
  have e0 : (List.replicate ((d.1.length : Nat) : Int).toNat [IsI 0]).flatten = (List.replicate d.1.length (0 : Int)).map IsI := by
    rw [Int.toNat_natCast, List.map_replicate]
    induction d.1.length with
    | zero => rfl
    | succ n ih => rw [List.replicate_succ, List.flatten_cons, ih]; rfl
  refine b_stM 2 (fun _ => nd) (M := Ml [rowP (rdV (LV d) d.1.length 0)]) (fun i => pe_lst (uA_pa i)) (n_lst (a_1 (TyE.eq (P' := rowP (rdV (LV d) d.1.length 0)) (e_rep (Ps := [IsI 0]) (e_lst (a_1 e_int) len1) (e_kinds rw_ (fun _ => rfl) (vr 0)) (by omega) (by omega) (by rw [sizeLine_eq, Int.toNat_natCast]; show 1 * _ ≤ _; omega)) (by rw [e0]; rfl))) len1) ?_
  refine b_forF (List.range d.1.length) ni (fun fs : List (List Int) => [.is (Wo cW d.1), .is (Ru cU d.2), .mu (Ml (fs.map rowP)), .any, .any, .any, .any, .any]) (fun fs t => [.is (Wo cW d.1), .is (Ru cU d.2), .mu (Ml (fs.map rowP)), .is (ni t), .any, .any, .any, .any])
    (fun fs t => fs ++ [(List.range d.1.length).map (stepV (LV d) d.1.length (fs.getLast?.getD []))]) [rdV (LV d) d.1.length 0] (fun pre fs => fs = (List.range (pre.length + 1)).map (rdV (LV d) d.1.length)) rfl (fun _ => rfl) (fun _ => rfl) (i_rng (fun _ => b.range) (e_kinds rw_ (fun _ => rfl) (vr 0)) (by omega)) (fun fs t _ => g_nm 3 (fun _ => nd)) (fun pre fs t ht hfs hpost => ?_) (fun pre fs t ht hfs _ => ?_) fun hfs => ?_
  · have hlast : fs.getLast? = some (rdV (LV d) d.1.length pre.length) := by
      rw [hfs, List.range_succ, List.map_append]
      exact last_app
    have hg : fs.getLast?.getD [] = rdV (LV d) d.1.length pre.length := by rw [hlast]; rfl
    have hlen : fs.length ≤ 7 := by
      obtain ⟨post, hp⟩ := hpost
      have := congrArg List.length hp
      rw [List.length_range, List.length_append, List.length_cons] at this
      rw [hfs, List.length_map, List.length_range]
      omega
    rw [hg]
    have hlm : (fs.map rowP).getLast? = some (rowP (rdV (LV d) d.1.length pre.length)) := by rw [List.getLast?_map, hlast]; rfl
    refine b_stM 4 (fun _ => nd) (M := Ml []) (fun i => pe_lst (uA_pa i)) (n_lst a_nil (Nat.zero_le _)) ?_
    refine b_forF (List.range d.1.length) ni (fun r : List Int => [.is (Wo cW d.1), .is (Ru cU d.2), .mu (Ml (fs.map rowP)), .is (ni t), .mu (Ml (r.map IsI)), .any, .any, .any]) (fun r l => [.is (Wo cW d.1), .is (Ru cU d.2), .mu (Ml (fs.map rowP)), .is (ni t), .mu (Ml (r.map IsI)), .is (ni l), .any, .any])
      (fun r l => r ++ [stepV (LV d) d.1.length (rdV (LV d) d.1.length pre.length) l]) [] (fun pre' r => r = pre'.map (stepV (LV d) d.1.length (rdV (LV d) d.1.length pre.length))) rfl (fun _ => rfl) (fun _ => rfl) (i_rng (fun _ => b.range) (e_kinds rw_ (fun _ => rfl) (vr 0)) (by omega)) (fun r l _ => g_nm 5 (fun _ => nd)) (fun pre' r l hl hr hpost' => ?_) (fun pre' r l hl hr _ => ?_) fun hr => ?_
    · have hlen' : r.length ≤ 6 := by
        obtain ⟨post, hp⟩ := hpost'
        have := congrArg List.length hp
        rw [List.length_range, List.length_append, List.length_cons] at this
        rw [hr, List.length_map]
        omega
      refine b_lcF (ds := List.range d.1.length) (it := ni) (f := ni) (t := fun k => !decide ((k : Int) = (l : Int))) 6 7 (fun _ => nd) (fun _ => rfl) (i_rng (fun _ => b.range) (e_kinds rw_ (fun _ => rfl) (vr 0)) (by omega)) (fun k _ => t_ne (vr 7) (vr 5)) (fun k _ _ => vr 7) (by rw [List.length_range, sizeLine_eq]; omega) (fun i M h z => by subst z; cases h) ?_
      refine b_app (fun _ => rfl) (fun _ => pv 4) (i := 4) rfl .mu (P := IsI (stepV (LV d) d.1.length (rdV (LV d) d.1.length pre.length) l)) (e_min (ns := (befV d.1.length l).map fun k => (rdV (LV d) d.1.length pre.length).getD k 0 + LV d k l) (fun _ => rfl) (fun _ => b.min) (fun _ => rfl) (TyE.eq (e_lcN (ds := befV d.1.length l) (it := ni) (f := fun k => IsI ((rdV (LV d) d.1.length pre.length).getD k 0 + LV d k l)) 7 (fun _ => nd) (fun _ => rfl) (i_list (fun _ => rfl) (vr 6)) (fun k hk => ?_) (by rw [sizeLine_eq]; have := bef_len (n := d.1.length) (last := l); omega) (fun i M h z => by subst z; cases h)) (by rw [List.map_map]; rfl)) (by rw [List.length_map]; exact bef_pos h.2) (minI_eq (by rw [List.length_map]; exact bef_pos h.2))) rfl .mu (by rw [sizeLine_eq, List.length_map]; omega) (b_nil ?_)
      · have hk' := mem_bef.mp hk
        refine e_add (e_ixL (Ps := (rdV (LV d) d.1.length pre.length).map IsI) (fun _ => rfl) (e_ixM (fun _ => rfl) (fun _ => pv 2) ⟨_, rfl, .mu⟩ (e_neg e_int) rfl .mu (atI_last hlm)) (vr 7) (at_map (d := 0) (by rw [rdV_len]; exact hk'.1))) (e_gf fam.blk m.lo (d, k, l) (fun _ => rfl) (a_cons (vr 0) (a_cons (vr 1) (a_2 (vr 7) (vr 5)))) ⟨h.1, hk'.1, List.mem_range.mp hl⟩)
      · rw [List.map_append]
        exact .cons .rfl (.cons .rfl (.cons .rfl (.cons .rfl (.cons .rfl (.cons .any (.cons .any (.cons .any .nil)))))))
    · rw [hr, List.map_append]; rfl
    · rw [hr]
      refine b_freeze (k := 4) (P := rowP ((List.range d.1.length).map (stepV (LV d) d.1.length (rdV (LV d) d.1.length pre.length)))) rfl Ml.known ?_
      refine b_app (fun _ => rfl) (fun _ => pv 2) (i := 2) rfl .mu (vr 4) rfl .mu (by rw [sizeLine_eq, List.length_map]; omega) (b_nil ?_)
      rw [List.map_append]
      exact .cons .rfl (.cons .rfl (.cons .rfl (.cons .any (.cons .any (.cons .any (.cons .any (.cons .any .nil)))))))
  · rw [List.length_append, List.length_singleton, List.range_succ, List.map_append, ← hfs, hfs]
    congr 1
    rw [List.range_succ, List.map_append]
    show [_] = [_]
    rw [show (List.map (rdV (LV d) d.1.length) (List.range pre.length) ++ List.map (rdV (LV d) d.1.length) [pre.length]).getLast? = some (rdV (LV d) d.1.length pre.length) from last_app]
    rfl
  · rw [hfs, List.length_range]
    refine b_freeze (k := 2) (P := Ls ((roundsV (LV d) d.1.length).map rowP)) rfl Ml.known ?_
    exact b_ret (vr 2) OwnAt.none
end
end Tf
end
section
/-! least_mean, least_gain. -/
namespace Tf
open PySem PySem.Spec PyProof.Rows L2 Ty
def gmaxL : List Rat → Rat
  | [] => 0
  | q :: qs => gmax q qs
def gminL : List Rat → Rat
  | [] => 0
  | q :: qs => gmin q qs
theorem fold_gmax : ∀ (xs : List Rat) (x : Rat), (xs.foldl (fun m y => if m < y then y else m) x = x ∨ xs.foldl (fun m y => if m < y then y else m) x ∈ xs) ∧ x ≤ xs.foldl (fun m y => if m < y then y else m) x ∧ ∀ y ∈ xs, y ≤ xs.foldl (fun m y => if m < y then y else m) x
  | [], x => ⟨.inl rfl, Rat.le_refl, fun y hy => by cases hy⟩
  | z :: xs, x => by
    show (xs.foldl _ (if x < z then z else x) = x ∨ xs.foldl _ (if x < z then z else x) ∈ z :: xs) ∧ x ≤ xs.foldl _ (if x < z then z else x) ∧ ∀ y ∈ z :: xs, y ≤ xs.foldl _ (if x < z then z else x)
    obtain ⟨h1, h2, h3⟩ := fold_gmax xs (if x < z then z else x)
    have hx : x ≤ if x < z then z else x := by split; exact Rat.le_of_lt ‹_›; exact Rat.le_refl
    have hz : z ≤ if x < z then z else x := by split; exact Rat.le_refl; exact Rat.not_lt.mp ‹_›
    refine ⟨?_, Rat.le_trans hx h2, fun y hy => ?_⟩
    · rcases h1 with h1 | h1
      · rw [h1]
        split
        · exact .inr List.mem_cons_self
        · exact .inl rfl
      · exact .inr (List.mem_cons_of_mem _ h1)
    · rcases List.mem_cons.mp hy with rfl | hy
      · exact Rat.le_trans hz h2
      · exact h3 y hy
theorem fold_gmin : ∀ (xs : List Rat) (x : Rat), (xs.foldl (fun m y => if y < m then y else m) x = x ∨ xs.foldl (fun m y => if y < m then y else m) x ∈ xs) ∧ xs.foldl (fun m y => if y < m then y else m) x ≤ x ∧ ∀ y ∈ xs, xs.foldl (fun m y => if y < m then y else m) x ≤ y
  | [], x => ⟨.inl rfl, Rat.le_refl, fun y hy => by cases hy⟩
  | z :: xs, x => by
    show (xs.foldl _ (if z < x then z else x) = x ∨ xs.foldl _ (if z < x then z else x) ∈ z :: xs) ∧ xs.foldl _ (if z < x then z else x) ≤ x ∧ ∀ y ∈ z :: xs, xs.foldl _ (if z < x then z else x) ≤ y
    obtain ⟨h1, h2, h3⟩ := fold_gmin xs (if z < x then z else x)
    have hx : (if z < x then z else x) ≤ x := by split; exact Rat.le_of_lt ‹_›; exact Rat.le_refl
    have hz : (if z < x then z else x) ≤ z := by split; exact Rat.le_refl; exact Rat.not_lt.mp ‹_›
    refine ⟨?_, Rat.le_trans h2 hx, fun y hy => ?_⟩
    · rcases h1 with h1 | h1
      · rw [h1]
        split
        · exact .inr List.mem_cons_self
        · exact .inl rfl
      · exact .inr (List.mem_cons_of_mem _ h1)
    · rcases List.mem_cons.mp hy with rfl | hy
      · exact Rat.le_trans h2 hz
      · exact h3 y hy
theorem gmaxL_spec {l : List Rat} (h : l ≠ []) : gmaxL l ∈ l ∧ ∀ y ∈ l, y ≤ gmaxL l := by
  cases l with
  | nil => exact absurd rfl h
  | cons q qs =>
    obtain ⟨h1, h2, h3⟩ := fold_gmax (q :: qs) q
    refine ⟨?_, h3⟩
    rcases h1 with h1 | h1
    · show gmax q qs ∈ _; unfold gmax; rw [h1]; exact List.mem_cons_self
    · exact h1
theorem gminL_spec {l : List Rat} (h : l ≠ []) : gminL l ∈ l ∧ ∀ y ∈ l, gminL l ≤ y := by
  cases l with
  | nil => exact absurd rfl h
  | cons q qs =>
    obtain ⟨h1, h2, h3⟩ := fold_gmin (q :: qs) q
    refine ⟨?_, h3⟩
    rcases h1 with h1 | h1
    · show gmin q qs ∈ _; unfold gmin; rw [h1]; exact List.mem_cons_self
    · exact h1
theorem Q6.frac {B m : Nat} {x : Int} (h : x.natAbs ≤ B) (h1 : 1 ≤ m) (h6 : m ≤ 6) : Q6 (60 * B) (mkRat x m) := by
  have key : ∀ a : Nat, a ≠ 0 → m * a = 60 → a ≤ 60 → Q6 (60 * B) (mkRat x m) := fun a ha e ha6 => by
    refine ⟨x * a, ?_, ?_⟩
    · rw [← e, Rat.mkRat_mul_right ha]
    · rw [Int.natAbs_mul, Int.natAbs_natCast, Nat.mul_comm]
      exact Nat.mul_le_mul ha6 h
  have : m = 1 ∨ m = 2 ∨ m = 3 ∨ m = 4 ∨ m = 5 ∨ m = 6 := by omega
  rcases this with rfl | rfl | rfl | rfl | rfl | rfl
  · exact key 60 (by decide) rfl (by decide)
  · exact key 30 (by decide) rfl (by decide)
  · exact key 20 (by decide) rfl (by decide)
  · exact key 15 (by decide) rfl (by decide)
  · exact key 12 (by decide) rfl (by decide)
  · exact key 10 (by decide) rfl (by decide)
theorem rdV_bd {L : Nat → Nat → Int} {n B : Nat} (h : ∀ k l, (L k l).natAbs ≤ B) : ∀ t k, ((rdV L n t).getD k 0).natAbs ≤ t * B
  | 0, k => by
    show ((List.replicate n (0 : Int)).getD k 0).natAbs ≤ _
    rw [List.getD_eq_getElem?_getD, List.getElem?_replicate]
    split <;> simp
  | t + 1, k => by
    show (((List.range n).map (stepV L n (rdV L n t))).getD k 0).natAbs ≤ _
    rw [List.getD_eq_getElem?_getD, List.getElem?_map]
    by_cases hk : k < n
    · rw [List.getElem?_range hk]
      show (stepV L n (rdV L n t) k).natAbs ≤ _
      unfold stepV
      by_cases h0 : 0 < (befV n k).length
      · have hm := (minI_mem (ns := (befV n k).map fun j => (rdV L n t).getD j 0 + L j k) (by rw [List.length_map]; exact h0)).1
        obtain ⟨j, _, e⟩ := List.mem_map.mp hm
        rw [← e]
        have h1 := rdV_bd (n := n) h t j
        have h2 := h j k
        rw [Nat.succ_mul]
        omega
      · have : befV n k = [] := List.length_eq_zero_iff.mp (by omega)
        rw [this]
        simp [minI]
    · rw [List.getElem?_eq_none (by rw [List.length_range]; omega)]
      simp
def endV (L : Nat → Nat → Int) (n k : Nat) : Rat := gmaxL ((List.range n).map fun a => mkRat ((rdV L n n).getD k 0 - (rdV L n a).getD k 0) (n - a))
def lmV (L : Nat → Nat → Int) (n : Nat) : Rat := gminL ((List.range n).map (endV L n))
def lgV (L : Nat → Nat → Int) (n : Nat) : Rat := -lmV L n
theorem rng_ne {α : Type} {n : Nat} {f : Nat → α} (h : 1 ≤ n) : (List.range n).map f ≠ [] := fun z => by
  have := congrArg List.length z
  rw [List.length_map, List.length_range] at this
  simp at this
  omega
section
variable {L : Nat → Nat → Int} {n : Nat}
theorem frac_q6 (hL : ∀ k l, (L k l).natAbs ≤ 2 ^ 81) (h6 : n ≤ 6) (k : Nat) {a : Nat} (ha : a < n) : Q6 (2 ^ 95) (mkRat ((rdV L n n).getD k 0 - (rdV L n a).getD k 0) (n - a)) := by
  have h1 := rdV_bd (n := n) hL n k
  have h2 := rdV_bd (n := n) hL a k
  have h3 : n * 2 ^ 81 ≤ 6 * 2 ^ 81 := Nat.mul_le_mul_right _ h6
  have h4 : a * 2 ^ 81 ≤ 6 * 2 ^ 81 := Nat.mul_le_mul_right _ (by omega)
  refine (Q6.frac (B := 12 * 2 ^ 81) (by omega) (by omega) (by omega)).mono (by decide)
theorem endV_q6 (hL : ∀ k l, (L k l).natAbs ≤ 2 ^ 81) (h1 : 1 ≤ n) (h6 : n ≤ 6) (k : Nat) : Q6 (2 ^ 95) (endV L n k) := by
  have := (gmaxL_spec (rng_ne (f := fun a => mkRat ((rdV L n n).getD k 0 - (rdV L n a).getD k 0) (n - a)) h1)).1
  obtain ⟨a, ha, e⟩ := List.mem_map.mp this
  have h2 := frac_q6 hL h6 k (List.mem_range.mp ha)
  unfold endV
  rw [← e]
  exact h2
theorem lmV_q6 (hL : ∀ k l, (L k l).natAbs ≤ 2 ^ 81) (h1 : 1 ≤ n) (h6 : n ≤ 6) : Q6 (2 ^ 95) (lmV L n) := by
  have := (gminL_spec (rng_ne (f := endV L n) h1)).1
  obtain ⟨a, ha, e⟩ := List.mem_map.mp this
  unfold lmV
  rw [← e]
  exact endV_q6 hL h1 h6 a
end
section
variable {P : Program} {w : World} {K : PySem.W.Frag} {mg : Str → Option Value} {base : Heap} {f : Addr} {fd : FuncData} {cR cF cW cU : Addr}
section
variable {ι : Type} {X : ι → Cx} {Ga Gb Gc : List Sl} {e1 e2 : Expr} {pos p1 p2 p3 : Pos} {j : Nat} {l : List Rat}
theorem e_great (fam : Fam X P w K mg base j) (F : Gf P w K mg base 2 "greatest" (spGr cR)) (ha : TyE X Ga e1 (Ls (l.map (Ra cR))) Gb) (hl : l ≠ []) (hs : ∀ q ∈ l, Sz q) (hz : l.length ≤ 1000) (hk : 2 ≤ j := by decide) (hg : ∀ i, Gl (X i) "greatest" := by intro i; rfl)
    (he : ∀ i, starEach [e1] (X i).env = (false, eval e1 (X i).env) :: starEach [] (X i).env := by intro i; rfl) (hpl : ∀ i, (backTo pos (starEach [] (X i).env)).any (·.1) = false := by intro i; rfl) : TyE X Ga (.Call (.Name "greatest" p1) [e1] [] pos) (Ra cR (gmaxL l)) Gb := by
  cases l with
  | nil => exact absurd rfl hl
  | cons q qs => exact e_gf fam F (q, qs) hg (a_1 ha he) ⟨hs, by have : qs.length + 1 ≤ 1000 := hz; show qs.length < 1000; omega⟩ hk (by decide) he hpl
theorem e_least (fam : Fam X P w K mg base j) (F : Gf P w K mg base 2 "least" (spLs cR)) (ha : TyE X Ga e1 (Ls (l.map (Ra cR))) Gb) (hl : l ≠ []) (hs : ∀ q ∈ l, Sz q) (hz : l.length ≤ 1000) (hk : 2 ≤ j := by decide) (hg : ∀ i, Gl (X i) "least" := by intro i; rfl)
    (he : ∀ i, starEach [e1] (X i).env = (false, eval e1 (X i).env) :: starEach [] (X i).env := by intro i; rfl) (hpl : ∀ i, (backTo pos (starEach [] (X i).env)).any (·.1) = false := by intro i; rfl) : TyE X Ga (.Call (.Name "least" p1) [e1] [] pos) (Ra cR (gminL l)) Gb := by
  cases l with
  | nil => exact absurd rfl hl
  | cons q qs => exact e_gf fam F (q, qs) hg (a_1 ha he) ⟨hs, by have : qs.length + 1 ≤ 1000 := hz; show qs.length < 1000; omega⟩ hk (by decide) he hpl
end
abbrev NLM : List Str := ["worths", "rule", "rows", "many", "ends", "kind", "at"]
theorem scLM : FnScope NLM ["worths", "rule"] (defScope (top 45)) := ⟨rfl, rfl, rfl, by decide +kernel, rfl, by decide +kernel, by decide +kernel⟩
theorem scLG : FnScope ["worths", "rule"] ["worths", "rule"] (defScope (top 46)) := ⟨rfl, rfl, rfl, by decide +kernel, rfl, by decide +kernel, by decide +kernel⟩
abbrev spLM (cR cW cU : Addr) : Sp := SpD (aWR cW cU) sC2 (fun d => Ra cR (lmV (LV d) d.1.length))
abbrev spLG (cR cW cU : Addr) : Sp := SpD (aWR cW cU) sC2 (fun d => Ra cR (lgV (LV d) d.1.length))
theorem body_lm (b : Fb mg) (r : RaM P w K mg base cR) (rw_ : WoF mg K cW) (GR : Gf P w K mg base 2 "greatest" (spGr cR)) (LS : Gf P w K mg base 2 "least" (spLs cR)) (RO : Gf P w K mg base 8 "rounds" (spRo cW cU)) (d : dWR) (h : sC2 d) : BodyOk P w K mg base NLM "least_mean" (defScope (top 45)) (defBody (top 45)) 8 (padG NLM ((aWR cW cU d).map .is)) (Ra cR (lmV (LV d) d.1.length)) none := by
  intro f cdv Ar outer s H E fam
  have nd := scLM.nd
  have n6 := h.1.rc.n6
  have n1 := h.1.rc.n1
  have hL : ∀ k l, (LV d k l).natAbs ≤ 2 ^ 81 := lossV_bd h.1
  have hR : ∀ t, t ≤ d.1.length → ∀ {Ga : List Sl}, atI ((roundsV (LV d) d.1.length).map rowP) ((t : Nat) : Int) = some (rowP (rdV (LV d) d.1.length t)) := fun t ht Ga => by
    unfold roundsV
    rw [List.map_map]
    apply Ty.atI_nat
    rw [List.getElem?_map, List.getElem?_range (by omega)]
    rfl
  refine ⟨none, ?_, fun _ h => nomatch h⟩
  refine b_st 2 (fun _ => nd) (e_gf fam RO d (fun _ => rfl) (a_2 (vr 0) (vr 1)) h) ?_
  refine b_st 3 (fun _ => nd) (e_kinds rw_ (fun _ => rfl) (vr 0)) ?_
  refine b_stM 4 (fun _ => nd) (M := Ml []) (fun i => pe_lst (uA_pa i)) (n_lst a_nil (Nat.zero_le _)) ?_
  refine b_forF (List.range d.1.length) ni (fun r : List Rat => [.is (Wo cW d.1), .is (Ru cU d.2), .is (Ls ((roundsV (LV d) d.1.length).map rowP)), .is (ni d.1.length), .mu (Ml (r.map (Ra cR))), .any, .any]) (fun r k => [.is (Wo cW d.1), .is (Ru cU d.2), .is (Ls ((roundsV (LV d) d.1.length).map rowP)), .is (ni d.1.length), .mu (Ml (r.map (Ra cR))), .is (ni k), .any])
    (fun r k => r ++ [endV (LV d) d.1.length k]) [] (fun pre r => r = pre.map (endV (LV d) d.1.length)) rfl (fun _ => rfl) (fun _ => rfl) (i_rng (fun _ => b.range) (vr 3) (by omega)) (fun r l _ => g_nm 5 (fun _ => nd)) (fun pre r' k hk hr hpost => ?_) (fun pre r' l hl hr _ => ?_) fun hr => ?_
  · have hlen' : r'.length ≤ 6 := by
      obtain ⟨post, hp⟩ := hpost
      have := congrArg List.length hp
      rw [List.length_range, List.length_append, List.length_cons] at this
      rw [hr, List.length_map]
      omega
    have hk' := List.mem_range.mp hk
    refine b_app (fun _ => rfl) (fun _ => pv 4) (i := 4) rfl .mu (P := Ra cR (endV (LV d) d.1.length k)) (e_great fam GR (l := (List.range d.1.length).map fun a => mkRat ((rdV (LV d) d.1.length d.1.length).getD k 0 - (rdV (LV d) d.1.length a).getD k 0) (d.1.length - a)) (TyE.eq (e_lcN (ds := List.range d.1.length) (it := ni) (f := fun a => Ra cR (mkRat ((rdV (LV d) d.1.length d.1.length).getD k 0 - (rdV (LV d) d.1.length a).getD k 0) (d.1.length - a))) 6 (fun _ => nd) (fun _ => rfl) (i_rng (fun _ => b.range) (vr 3) (by omega)) (fun a ha => ?_) (by rw [List.length_range, sizeLine_eq]; omega) (fun i M h z => by subst z; cases h)) (by rw [List.map_map]; rfl)) (rng_ne n1) (fun q hq => ?_) (by rw [List.length_map, List.length_range]; omega)) rfl .mu (by rw [sizeLine_eq, List.length_map]; omega) (b_nil ?_)
    · have ha' := List.mem_range.mp ha
      refine e_mk fam.blk r.made ((rdV (LV d) d.1.length d.1.length).getD k 0 - (rdV (LV d) d.1.length a).getD k 0, d.1.length - a) (fun _ => rfl) r.f.glo (a_2 (e_sub (e_ixL (Ps := (rdV (LV d) d.1.length d.1.length).map IsI) (fun _ => rfl) (e_ixL (fun _ => rfl) (vr 2) (vr 3) (hR d.1.length (Nat.le_refl _) (Ga := []))) (vr 5) (at_map (d := 0) (by rw [rdV_len]; exact hk'))) (e_ixL (Ps := (rdV (LV d) d.1.length a).map IsI) (fun _ => rfl) (e_ixL (fun _ => rfl) (vr 2) (vr 6) (hR a (by omega) (Ga := []))) (vr 5) (at_map (d := 0) (by rw [rdV_len]; exact hk')))) (TyE.eq (e_sub (vr 3) (vr 6)) ?_)) ⟨by show 0 < d.1.length - a; omega, Nat.lt_of_le_of_lt (show d.1.length - a ≤ 6 by omega) (Nat.lt_of_lt_of_le (show 6 < 2 ^ 3 by decide) (Nat.pow_le_pow_right (by decide) (by decide)))⟩
      congr 1
      show (d.1.length : Int) - (a : Int) = ((d.1.length - a : Nat) : Int)
      omega
    · obtain ⟨a, ha, e⟩ := List.mem_map.mp hq
      rw [← e]
      exact (frac_q6 hL n6 k (List.mem_range.mp ha)).sz (by decide)
    · rw [List.map_append]
      exact .cons .rfl (.cons .rfl (.cons .rfl (.cons .rfl (.cons .rfl (.cons .any (.cons .any .nil))))))
  · rw [hr, List.map_append]; rfl
  · rw [hr]
    refine b_freeze (k := 4) (P := Ls (((List.range d.1.length).map (endV (LV d) d.1.length)).map (Ra cR))) rfl Ml.known ?_
    refine b_ret (e_least fam LS (vr 4) (rng_ne n1) (fun q hq => ?_) (by rw [List.length_map, List.length_range]; omega)) OwnAt.none
    obtain ⟨a, ha, e⟩ := List.mem_map.mp hq
    rw [← e]
    exact (endV_q6 hL n1 n6 a).sz (by decide)
theorem body_lg (r : RaM P w K mg base cR) (C2 : Gf P w K mg base 6 "check_two" (spC2 cW cU)) (LM : Gf P w K mg base 9 "least_mean" (spLM cR cW cU)) (d : dWR) (h : sC2 d) : BodyOk P w K mg base ["worths", "rule"] "least_gain" (defScope (top 46)) (defBody (top 46)) 9 (padG ["worths", "rule"] ((aWR cW cU d).map .is)) (Ra cR (lgV (LV d) d.1.length)) none := by
  intro f cdv Ar outer s H E fam
  refine ⟨none, ?_, fun _ h => nomatch h⟩
  refine b_expr (e_gf fam C2 d (fun _ => rfl) (a_2 (vr 0) (vr 1)) h) ?_
  exact b_ret (e_rneg fam r (e_gf fam LM d (fun _ => rfl) (a_2 (vr 0) (vr 1)) h) ((lmV_q6 (lossV_bd h.1) h.1.rc.n1 h.1.rc.n6).sz (by decide))) OwnAt.none
end
end Tf
end
section
/-! Walks and potentials; the mean of rounds. -/
namespace Tf
/-- fees p let no lie gain more than g -/
def Pot (L : Nat → Nat → Int) (n : Nat) (g : Rat) (p : Nat → Rat) : Prop := ∀ i j, i < n → j < n → i ≠ j → p i - p j ≤ (L i j : Rat) + g
/-! ### walks: a list of places, its head the place where it ends up -/
def pc (c : Nat → Nat → Rat) : List Nat → Rat
  | u :: v :: r => c u v + pc c (v :: r)
  | _ => 0
def wt (c : Nat → Nat → Rat) (s0 : Nat → Rat) : List Nat → Rat
  | u :: v :: r => c u v + wt c s0 (v :: r)
  | [u] => s0 u
  | [] => 0
def Chn (n : Nat) : List Nat → Prop
  | u :: v :: r => u < n ∧ u ≠ v ∧ Chn n (v :: r)
  | [u] => u < n
  | [] => True
structure IsE (c : Nat → Nat → Rat) (n : Nat) (s0 : Nat → Rat) (E : Nat → Nat → Rat) : Prop where
  zero : ∀ i, i < n → E 0 i = s0 i
  att : ∀ t i, i < n → ∃ j, j < n ∧ j ≠ i ∧ E (t + 1) i = c i j + E t j
  le : ∀ t i j, i < n → j < n → j ≠ i → E (t + 1) i ≤ c i j + E t j
section
variable {c : Nat → Nat → Rat} {n : Nat} {s0 : Nat → Rat} {E : Nat → Nat → Rat} {q : Nat → Rat}
theorem walk_of (h : IsE c n s0 E) : ∀ t i, i < n → ∃ l, (i :: l).length = t + 1 ∧ Chn n (i :: l) ∧ wt c s0 (i :: l) = E t i
  | 0, i, hi => ⟨[], rfl, hi, (h.zero i hi).symm⟩
  | t + 1, i, hi => by
    obtain ⟨j, hj, hne, e⟩ := h.att t i hi
    obtain ⟨l, h1, h2, h3⟩ := walk_of h t j hj
    refine ⟨j :: l, by rw [List.length_cons, h1], ⟨hi, Ne.symm hne, h2⟩, ?_⟩
    show c i j + wt c s0 (j :: l) = _
    rw [h3, e]
theorem walk_le (h : IsE c n s0 E) : ∀ l i, Chn n (i :: l) → E l.length i ≤ wt c s0 (i :: l)
  | [], i, hc => by
    have hi : i < n := hc
    show E 0 i ≤ s0 i
    rw [h.zero i hi]
    exact Rat.le_refl
  | j :: l, i, hc => by
    obtain ⟨hi, hne, hc'⟩ := hc
    have ih := walk_le h l j hc'
    have hj : j < n := by
      cases l with
      | nil => exact hc'
      | cons _ _ => exact hc'.1
    have := h.le l.length i j hi hj (Ne.symm hne)
    show E (l.length + 1) i ≤ c i j + wt c s0 (j :: l)
    grind
theorem Chn.tail {x : Nat} {l : List Nat} (h : Chn n (x :: l)) : Chn n l := by
  cases l with
  | nil => trivial
  | cons y r => exact h.2.2
theorem Chn.mem : ∀ {l : List Nat}, Chn n l → ∀ x ∈ l, x < n
  | [], _, x, hx => by cases hx
  | [u], h, x, hx => by rw [List.mem_singleton.mp hx]; exact h
  | u :: v :: r, h, x, hx => by
    rcases List.mem_cons.mp hx with rfl | hx
    · exact h.1
    · exact Chn.mem h.2.2 x hx
/-- costs are at least the fall of a potential -/
theorem pc_ge (hq : ∀ i j, i < n → j < n → i ≠ j → q i - q j ≤ c i j) : ∀ (l : List Nat) (u z : Nat), Chn n (u :: l) → (u :: l).getLast? = some z → q u - q z ≤ pc c (u :: l)
  | [], u, z, _, e => by
    have e : some u = some z := e
    cases e
    show q u - q u ≤ 0
    grind
  | v :: l, u, z, h, e => by
    have hv : v < n := Chn.mem h v (by simp)
    have ih := pc_ge hq l v z h.2.2 (by rw [List.getLast?_cons_cons] at e; exact e)
    have h1 := hq u v h.1 hv h.2.1
    show q u - q z ≤ c u v + pc c (v :: l)
    grind
theorem wt_cut : ∀ (x : List Nat) (a : Nat) (y z : List Nat), wt c s0 (x ++ a :: (y ++ a :: z)) = wt c s0 (x ++ a :: z) + pc c (a :: (y ++ [a]))
  | [], a, y, z => by
    have key : ∀ (y : List Nat) (a b : Nat), wt c s0 (a :: (y ++ b :: z)) = pc c (a :: (y ++ [b])) + wt c s0 (b :: z) := fun y => by
      induction y with
      | nil =>
        intro a b
        show c a b + wt c s0 (b :: z) = (c a b + 0) + wt c s0 (b :: z)
        grind
      | cons v y ih =>
        intro a b
        show c a v + wt c s0 (v :: (y ++ b :: z)) = (c a v + pc c (v :: (y ++ [b]))) + wt c s0 (b :: z)
        rw [ih v b]
        grind
    show wt c s0 (a :: (y ++ a :: z)) = wt c s0 (a :: z) + _
    rw [key y a a]
    grind
  | [u], a, y, z => by
    have ih := wt_cut [] a y z
    show c u a + wt c s0 (a :: (y ++ a :: z)) = (c u a + wt c s0 (a :: z)) + _
    have ih : wt c s0 (a :: (y ++ a :: z)) = wt c s0 (a :: z) + pc c (a :: (y ++ [a])) := ih
    rw [ih]
    grind
  | u :: v :: x, a, y, z => by
    have ih := wt_cut (v :: x) a y z
    show c u v + wt c s0 (v :: x ++ a :: (y ++ a :: z)) = (c u v + wt c s0 (v :: x ++ a :: z)) + _
    rw [ih]
    grind
theorem Chn.cut : ∀ (x : List Nat) (a : Nat) (y z : List Nat), Chn n (x ++ a :: (y ++ a :: z)) → Chn n (x ++ a :: z) ∧ Chn n (a :: (y ++ [a]))
  | [], a, y, z, h => by
    have tl : ∀ y : List Nat, Chn n (y ++ a :: z) → Chn n (a :: z) := fun y => by
      induction y with
      | nil => exact id
      | cons v y ih => exact fun h => ih h.tail
    have pre : ∀ (y : List Nat) (b : Nat), Chn n (b :: (y ++ a :: z)) → Chn n (b :: (y ++ [a])) := fun y => by
      induction y with
      | nil => exact fun b h => ⟨h.1, h.2.1, Chn.mem h a (by simp)⟩
      | cons v y ih => exact fun b h => ⟨h.1, h.2.1, ih v h.2.2⟩
    exact ⟨tl y h.tail, pre y a h⟩
  | [u], a, y, z, h => by
    obtain ⟨h1, h2⟩ := Chn.cut [] a y z h.2.2
    exact ⟨⟨h.1, h.2.1, h1⟩, h2⟩
  | u :: v :: x, a, y, z, h => by
    obtain ⟨h1, h2⟩ := Chn.cut (v :: x) a y z h.2.2
    exact ⟨⟨h.1, h.2.1, h1⟩, h2⟩
end
/-- a long list of small numbers has one of them twice -/
theorem twice_of {n : Nat} : ∀ {l : List Nat}, ¬ l.Nodup → ∃ x a y z, l = x ++ a :: (y ++ a :: z)
  | [], h => absurd List.nodup_nil h
  | u :: l, h => by
    by_cases hu : u ∈ l
    · obtain ⟨y, z, e⟩ := List.append_of_mem hu
      exact ⟨[], u, y, z, by rw [e]; rfl⟩
    · have : ¬ l.Nodup := fun z => h (List.nodup_cons.mpr ⟨hu, z⟩)
      obtain ⟨x, a, y, z, e⟩ := twice_of (n := n) this
      exact ⟨u :: x, a, y, z, by rw [e]; rfl⟩
theorem nodup_len : ∀ {n : Nat} {l : List Nat}, l.Nodup → (∀ x ∈ l, x < n) → l.length ≤ n
  | 0, [], _, _ => Nat.le_refl _
  | 0, x :: l, _, hl => absurd (hl x List.mem_cons_self) (Nat.not_lt_zero _)
  | n + 1, l, h, hl => by
    by_cases hm : n ∈ l
    · have h1 : (l.erase n).Nodup := h.erase n
      have h2 : ∀ x ∈ l.erase n, x < n := fun x hx => by
        have := hl x (List.mem_of_mem_erase hx)
        have hne : x ≠ n := fun z => by
          subst z
          exact h.not_mem_erase hx
        omega
      have := nodup_len h1 h2
      rw [List.length_erase_of_mem hm] at this
      omega
    · have := nodup_len (n := n) h fun x hx => by
        have := hl x hx
        have hne : x ≠ n := fun z => hm (z ▸ hx)
        omega
      omega
/-- no circle costs less than nothing: what is reached by n steps is reached by fewer, not dearer -/
theorem fewer_steps {c : Nat → Nat → Rat} {n : Nat} {s0 : Nat → Rat} {E : Nat → Nat → Rat} {q : Nat → Rat} (h : IsE c n s0 E) (hq : ∀ i j, i < n → j < n → i ≠ j → q i - q j ≤ c i j) (i : Nat) (hi : i < n) : ∃ t, t < n ∧ E t i ≤ E n i := by
  obtain ⟨l, h1, h2, h3⟩ := walk_of h n i hi
  have hnd : ¬ (i :: l).Nodup := fun z => by
    have := nodup_len z (Chn.mem h2)
    omega
  obtain ⟨x, a, y, z, e⟩ := twice_of (n := n) hnd
  have h2' := h2
  rw [e] at h2'
  obtain ⟨c1, c2⟩ := Chn.cut x a y z h2'
  have w := wt_cut (c := c) (s0 := s0) x a y z
  rw [← e, h3] at w
  have hp : q a - q a ≤ pc c (a :: (y ++ [a])) := pc_ge hq (y ++ [a]) a a c2 (by rw [← List.cons_append]; exact last_app)
  have hlen : (x ++ a :: z).length + (y.length + 1) = n + 1 := by
    have := congrArg List.length e
    rw [h1] at this
    simp at this ⊢
    omega
  have hlen0 : 0 < (x ++ a :: z).length := by rw [List.length_append, List.length_cons]; omega
  have hhd : ∃ l', x ++ a :: z = i :: l' := by
    cases x with
    | nil => exact ⟨z, by have : i :: l = a :: (y ++ a :: z) := e; cases this; rfl⟩
    | cons u x => exact ⟨x ++ a :: z, by have : i :: l = u :: (x ++ a :: (y ++ a :: z)) := e; cases this; rfl⟩
  obtain ⟨l', e'⟩ := hhd
  rw [e'] at w c1 hlen
  have := walk_le h l' i c1
  refine ⟨l'.length, ?_, ?_⟩
  · rw [List.length_cons] at hlen; omega
  · grind
end Tf
end
section
/-! What least_gain tells: the least gain of any fees. -/
namespace Tf
open Ty
section
variable {L : Nat → Nat → Int} {n : Nat}
abbrev Fv (L : Nat → Nat → Int) (n t i : Nat) : Int := (rdV L n t).getD i 0
theorem Fv_zero {i : Nat} (hi : i < n) : Fv L n 0 i = 0 := by
  show (List.replicate n (0 : Int)).getD i 0 = 0
  rw [List.getD_eq_getElem?_getD, List.getElem?_replicate]
  simp [hi]
theorem Fv_succ {t i : Nat} (hi : i < n) : Fv L n (t + 1) i = stepV L n (rdV L n t) i := by
  show ((List.range n).map (stepV L n (rdV L n t))).getD i 0 = _
  rw [List.getD_eq_getElem?_getD, List.getElem?_map, List.getElem?_range hi]
  rfl
theorem Fv_att (h2 : 2 ≤ n) {t i : Nat} (hi : i < n) : ∃ j, j < n ∧ j ≠ i ∧ Fv L n (t + 1) i = Fv L n t j + L j i := by
  rw [Fv_succ hi]
  have hm := (minI_mem (ns := (befV n i).map fun k => (rdV L n t).getD k 0 + L k i) (by rw [List.length_map]; exact bef_pos h2)).1
  obtain ⟨j, hj, e⟩ := List.mem_map.mp hm
  have hj' := mem_bef.mp hj
  exact ⟨j, hj'.1, hj'.2, e.symm⟩
theorem Fv_le (h2 : 2 ≤ n) {t i j : Nat} (hi : i < n) (hj : j < n) (hne : j ≠ i) : Fv L n (t + 1) i ≤ Fv L n t j + L j i := by
  rw [Fv_succ hi]
  have hm := (minI_mem (ns := (befV n i).map fun k => (rdV L n t).getD k 0 + L k i) (by rw [List.length_map]; exact bef_pos h2)).2
  exact hm _ (List.mem_map.mpr ⟨j, mem_bef.mpr ⟨hj, hne⟩, rfl⟩)
theorem mk_le {x : Int} {m : Nat} {y : Rat} (hm : 0 < m) : y ≤ mkRat x m ↔ y * (m : Rat) ≤ (x : Rat) := by
  have h0 : (0 : Rat) < (m : Rat) := by
    have : ((0 : Nat) : Rat) < (m : Rat) := by exact_mod_cast hm
    simpa using this
  have e : mkRat x m * (m : Rat) = (x : Rat) := by
    rw [Rat.mkRat_eq_div]
    exact Rat.div_mul_cancel (by grind)
  constructor
  · intro h
    have := Rat.mul_le_mul_of_nonneg_right h (Rat.le_of_lt h0)
    rwa [e] at this
  · intro h
    rw [← e] at h
    exact Rat.le_of_mul_le_mul_right h h0
/-- the slope at k is at least y: at some round -/
theorem end_ge (h1 : 1 ≤ n) {k : Nat} {y : Rat} : y ≤ endV L n k ↔ ∃ t, t < n ∧ y * ((n - t : Nat) : Rat) ≤ ((Fv L n n k - Fv L n t k : Int) : Rat) := by
  obtain ⟨hm, hl⟩ := gmaxL_spec (rng_ne (f := fun a => mkRat ((rdV L n n).getD k 0 - (rdV L n a).getD k 0) (n - a)) h1)
  constructor
  · intro h
    obtain ⟨t, ht, e⟩ := List.mem_map.mp hm
    have ht' := List.mem_range.mp ht
    refine ⟨t, ht', (mk_le (by omega)).mp ?_⟩
    show y ≤ mkRat ((rdV L n n).getD k 0 - (rdV L n t).getD k 0) (n - t)
    rw [e]
    exact h
  · rintro ⟨t, ht, h⟩
    exact Rat.le_trans ((mk_le (by omega)).mpr h) (hl _ (List.mem_map.mpr ⟨t, List.mem_range.mpr ht, rfl⟩))
theorem karp_pot (h2 : 2 ≤ n) : ∃ p, Pot L n (lgV L n) p := by
  have hlm : ∀ k, k < n → lmV L n ≤ endV L n k := fun k hk => (gminL_spec (rng_ne (f := endV L n) (by omega))).2 _ (List.mem_map.mpr ⟨k, List.mem_range.mpr hk, rfl⟩)
  generalize hla : lmV L n = la at hlm
  let φ : Nat → Rat := fun i => gminL ((List.range n).map fun t => (Fv L n t i : Rat) - (t : Rat) * la)
  have hφ : ∀ i, (∃ t, t < n ∧ φ i = (Fv L n t i : Rat) - (t : Rat) * la) ∧ ∀ t, t < n → φ i ≤ (Fv L n t i : Rat) - (t : Rat) * la := fun i => by
    obtain ⟨h3, h4⟩ := gminL_spec (rng_ne (f := fun t => (Fv L n t i : Rat) - (t : Rat) * la) (n := n) (by omega))
    refine ⟨?_, fun t ht => h4 _ (List.mem_map.mpr ⟨t, List.mem_range.mpr ht, rfl⟩)⟩
    obtain ⟨t, ht, e⟩ := List.mem_map.mp h3
    exact ⟨t, List.mem_range.mp ht, e.symm⟩
  have up : ∀ j, j < n → ∀ t, t ≤ n → φ j ≤ (Fv L n t j : Rat) - (t : Rat) * la := fun j hj t ht => by
    by_cases hlt : t < n
    · exact (hφ j).2 t hlt
    · have e : t = n := by omega
      subst e
      obtain ⟨s, hs, h⟩ := (end_ge (by omega)).mp (hlm j hj)
      have h5 := (hφ j).2 s hs
      have e1 : ((t - s : Nat) : Rat) = (t : Rat) - (s : Rat) := by
        have : ((t - s : Nat) : Rat) + (s : Rat) = (t : Rat) := by
          rw [← Rat.natCast_add, Nat.sub_add_cancel (by omega)]
        grind
      rw [e1, Rat.intCast_sub] at h
      grind
  refine ⟨fun i => - φ i, fun i j hi hj hne => ?_⟩
  obtain ⟨t, ht, e⟩ := (hφ i).1
  have h6 := up j hj (t + 1) ht
  have h7 := Fv_le (L := L) h2 (t := t) hj hi hne
  have h8 : ((Fv L n (t + 1) j : Int) : Rat) ≤ (Fv L n t i : Rat) + (L i j : Rat) := by
    rw [← Rat.intCast_add]
    exact_mod_cast h7
  have e2 : ((t + 1 : Nat) : Rat) = (t : Rat) + 1 := by rw [Rat.natCast_add]; rfl
  rw [e2] at h6
  show - φ i - - φ j ≤ (L i j : Rat) + lgV L n
  unfold lgV
  rw [hla]
  grind
theorem karp_least (h2 : 2 ≤ n) {g : Rat} {p : Nat → Rat} (hp : Pot L n g p) : lgV L n ≤ g := by
  have isE : IsE (fun i j => (L j i : Rat) + g) n (fun _ => 0) (fun t i => (Fv L n t i : Rat) + (t : Rat) * g) := by
    refine ⟨fun i hi => ?_, fun t i hi => ?_, fun t i j hi hj hne => ?_⟩
    · rw [Fv_zero hi]
      grind
    · obtain ⟨j, hj, hne, e⟩ := Fv_att (L := L) h2 (t := t) hi
      refine ⟨j, hj, hne, ?_⟩
      rw [e, Rat.intCast_add, Rat.natCast_add]
      grind
    · have := Fv_le (L := L) h2 (t := t) hi hj hne
      have h8 : ((Fv L n (t + 1) i : Int) : Rat) ≤ (Fv L n t j : Rat) + (L j i : Rat) := by
        rw [← Rat.intCast_add]
        exact_mod_cast this
      rw [Rat.natCast_add]
      grind
  have hq : ∀ i j, i < n → j < n → i ≠ j → (- p i) - (- p j) ≤ (L j i : Rat) + g := fun i j hi hj hne => by
    have := hp j i hj hi (Ne.symm hne)
    grind
  have ge : ∀ i, i < n → -g ≤ endV L n i := fun i hi => by
    obtain ⟨t, ht, h⟩ := fewer_steps isE (q := fun i => - p i) hq i hi
    refine (end_ge (by omega)).mpr ⟨t, ht, ?_⟩
    have e1 : ((n - t : Nat) : Rat) = (n : Rat) - (t : Rat) := by
      have : ((n - t : Nat) : Rat) + (t : Rat) = (n : Rat) := by
        rw [← Rat.natCast_add, Nat.sub_add_cancel (by omega)]
      grind
    rw [e1, Rat.intCast_sub]
    grind
  obtain ⟨hm, _⟩ := gminL_spec (rng_ne (f := endV L n) (n := n) (by omega))
  obtain ⟨k, hk, e⟩ := List.mem_map.mp hm
  have := ge k (List.mem_range.mp hk)
  show - gminL _ ≤ g
  rw [← e]
  grind
end
end Tf
end
section
/-! Sums that are bent until nothing changes. -/
namespace Tf
open Ty
def bfStep (L : Nat → Nat → Int) (g : Rat) (s : List Rat × Bool) (p : Nat × Nat) : List Rat × Bool :=
  if ((L p.1 p.2 : Rat) + g + s.1.getD p.2 0) < s.1.getD p.1 0 then (s.1.set p.1 ((L p.1 p.2 : Rat) + g + s.1.getD p.2 0), true) else s
theorem getD_set {s : List Rat} {k i : Nat} {x : Rat} (hk : k < s.length) : (s.set k x).getD i 0 = if i = k then x else s.getD i 0 := by
  rw [List.getD_eq_getElem?_getD, List.getD_eq_getElem?_getD]
  by_cases h : i = k
  · subst h
    rw [List.getElem?_set_self hk, if_pos rfl]
    rfl
  · rw [List.getElem?_set_ne (Ne.symm h), if_neg h]
section
variable {L : Nat → Nat → Int} {n : Nat} {g : Rat}
theorem bf_spec : ∀ (ps : List (Nat × Nat)) (s : List Rat × Bool), (∀ p ∈ ps, p.1 < s.1.length) →
    (ps.foldl (bfStep L g) s).1.length = s.1.length ∧ (∀ i, (ps.foldl (bfStep L g) s).1.getD i 0 ≤ s.1.getD i 0) ∧ (∀ p ∈ ps, (ps.foldl (bfStep L g) s).1.getD p.1 0 ≤ (L p.1 p.2 : Rat) + g + s.1.getD p.2 0) ∧
    ((ps.foldl (bfStep L g) s).2 = false → s.2 = false ∧ (ps.foldl (bfStep L g) s).1 = s.1 ∧ ∀ p ∈ ps, s.1.getD p.1 0 ≤ (L p.1 p.2 : Rat) + g + s.1.getD p.2 0) ∧
    ((∀ p ∈ ps, s.1.getD p.1 0 ≤ (L p.1 p.2 : Rat) + g + s.1.getD p.2 0) → ps.foldl (bfStep L g) s = s)
  | [], s, _ => ⟨rfl, fun _ => Rat.le_refl, fun p hp => (by cases hp), fun h => ⟨h, rfl, fun p hp => (by cases hp)⟩, fun _ => rfl⟩
  | p :: ps, s, hl => by
    have hp1 : p.1 < s.1.length := hl p List.mem_cons_self
    by_cases hc : ((L p.1 p.2 : Rat) + g + s.1.getD p.2 0) < s.1.getD p.1 0
    · have e : bfStep L g s p = (s.1.set p.1 ((L p.1 p.2 : Rat) + g + s.1.getD p.2 0), true) := if_pos hc
      have ef : (p :: ps).foldl (bfStep L g) s = ps.foldl (bfStep L g) (s.1.set p.1 ((L p.1 p.2 : Rat) + g + s.1.getD p.2 0), true) := by rw [List.foldl_cons, e]
      rw [ef]
      have hg : ∀ i, (s.1.set p.1 ((L p.1 p.2 : Rat) + g + s.1.getD p.2 0)).getD i 0 = if i = p.1 then ((L p.1 p.2 : Rat) + g + s.1.getD p.2 0) else s.1.getD i 0 := fun i => getD_set hp1
      have hle : ∀ i, (s.1.set p.1 ((L p.1 p.2 : Rat) + g + s.1.getD p.2 0)).getD i 0 ≤ s.1.getD i 0 := fun i => by
        rw [hg]
        split
        · rename_i h; rw [h]; exact Rat.le_of_lt hc
        · exact Rat.le_refl
      obtain ⟨h1, h2, h3, h4, h5⟩ := bf_spec ps (s.1.set p.1 ((L p.1 p.2 : Rat) + g + s.1.getD p.2 0), true) (fun x hx => by
        show x.1 < (s.1.set _ _).length
        rw [List.length_set]
        exact hl x (List.mem_cons_of_mem _ hx))
      refine ⟨by rw [h1]; exact List.length_set, fun i => Rat.le_trans (h2 i) (hle i), fun x hx => ?_, fun h => ?_, fun h => ?_⟩
      · rcases List.mem_cons.mp hx with rfl | hx
        · have := h2 x.1
          have e2 := hg x.1
          rw [if_pos rfl] at e2
          have this : _ ≤ (s.1.set x.1 ((L x.1 x.2 : Rat) + g + s.1.getD x.2 0)).getD x.1 0 := this
          rw [e2] at this
          exact this
        · have a := h3 x hx
          have b := hle x.2
          have a : _ ≤ (L x.1 x.2 : Rat) + g + (s.1.set p.1 ((L p.1 p.2 : Rat) + g + s.1.getD p.2 0)).getD x.2 0 := a
          grind
      · exact absurd (h4 h).1 (fun z => nomatch z)
      · exact absurd hc (Rat.not_lt.mpr (h p List.mem_cons_self))
    · have e : bfStep L g s p = s := if_neg hc
      have ef : (p :: ps).foldl (bfStep L g) s = ps.foldl (bfStep L g) s := by rw [List.foldl_cons, e]
      rw [ef]
      have hc' := Rat.not_lt.mp hc
      obtain ⟨h1, h2, h3, h4, h5⟩ := bf_spec ps s (fun x hx => hl x (List.mem_cons_of_mem _ hx))
      refine ⟨h1, h2, fun x hx => ?_, fun h => ?_, fun h => h5 fun x hx => h x (List.mem_cons_of_mem _ hx)⟩
      · rcases List.mem_cons.mp hx with rfl | hx
        · exact Rat.le_trans (h2 _) hc'
        · exact h3 x hx
      · obtain ⟨a, b, c⟩ := h4 h
        refine ⟨a, b, fun x hx => ?_⟩
        rcases List.mem_cons.mp hx with rfl | hx
        · exact hc'
        · exact c x hx
theorem bf_low {D : Nat → Rat} (hD : ∀ i j, i < n → j < n → i ≠ j → D i ≤ (L i j : Rat) + g + D j) : ∀ (ps : List (Nat × Nat)) (s : List Rat × Bool), s.1.length = n → (∀ p ∈ ps, p.1 < n ∧ p.2 < n ∧ p.1 ≠ p.2) → (∀ i, i < n → D i ≤ s.1.getD i 0) → ∀ i, i < n → D i ≤ (ps.foldl (bfStep L g) s).1.getD i 0
  | [], s, _, _, h => h
  | p :: ps, s, hl, hp, h => by
    have hp1 := hp p List.mem_cons_self
    rw [List.foldl_cons]
    refine bf_low hD ps (bfStep L g s p) ?_ (fun x hx => hp x (List.mem_cons_of_mem _ hx)) fun i hi => ?_
    · unfold bfStep; split
      · exact List.length_set.trans hl
      · exact hl
    · unfold bfStep
      split
      · show D i ≤ (s.1.set p.1 _).getD i 0
        rw [getD_set (by rw [hl]; exact hp1.1)]
        split
        · rename_i he
          rw [he]
          have a := hD p.1 p.2 hp1.1 hp1.2.1 hp1.2.2
          have b := h p.2 hp1.2.1
          grind
        · exact h i hi
      · exact h i hi
/-! what the passes go to -/
def E0v (L : Nat → Nat → Int) (g : Rat) (i : Nat) : Rat := if i = 0 then 0 else (L i 0 : Rat) + g
def Ev (L : Nat → Nat → Int) (n : Nat) (g : Rat) : Nat → Nat → Rat
  | 0, i => E0v L g i
  | t + 1, i => gminL ((befV n i).map fun j => (L i j : Rat) + g + Ev L n g t j)
theorem ev_is (h2 : 2 ≤ n) : IsE (fun i j => (L i j : Rat) + g) n (E0v L g) (Ev L n g) := by
  have ne : ∀ t i, ((befV n i).map fun j => (L i j : Rat) + g + Ev L n g t j) ≠ [] := fun t i z => by
    have h1 := congrArg List.length z
    rw [List.length_map, List.length_nil] at h1
    have := bef_pos (last := i) h2
    omega
  refine ⟨fun i hi => rfl, fun t i hi => ?_, fun t i j hi hj hne => ?_⟩
  · obtain ⟨h3, _⟩ := gminL_spec (ne t i)
    obtain ⟨j, hj, e⟩ := List.mem_map.mp h3
    have hj' := mem_bef.mp hj
    exact ⟨j, hj'.1, hj'.2, e.symm⟩
  · obtain ⟨_, h4⟩ := gminL_spec (ne t i)
    exact h4 _ (List.mem_map.mpr ⟨j, mem_bef.mpr ⟨hj, hne⟩, rfl⟩)
/-- the least by at most t steps -/
def Tv (L : Nat → Nat → Int) (n : Nat) (g : Rat) (t i : Nat) : Rat := gminL ((List.range (t + 1)).map fun s => Ev L n g s i)
theorem tv_spec (t i : Nat) : (∃ s, s ≤ t ∧ Tv L n g t i = Ev L n g s i) ∧ ∀ s, s ≤ t → Tv L n g t i ≤ Ev L n g s i := by
  obtain ⟨h3, h4⟩ := gminL_spec (rng_ne (f := fun s => Ev L n g s i) (n := t + 1) (by omega))
  refine ⟨?_, fun s hs => h4 _ (List.mem_map.mpr ⟨s, List.mem_range.mpr (by omega), rfl⟩)⟩
  obtain ⟨s, hs, e⟩ := List.mem_map.mp h3
  exact ⟨s, by have := List.mem_range.mp hs; omega, e.symm⟩
theorem tv_fix (h2 : 2 ≤ n) {p : Nat → Rat} (hp : Pot L n g p) : ∀ i j, i < n → j < n → i ≠ j → Tv L n g (n - 1) i ≤ (L i j : Rat) + g + Tv L n g (n - 1) j := fun i j hi hj hne => by
  obtain ⟨⟨s, hs, e⟩, _⟩ := tv_spec (L := L) (n := n) (g := g) (n - 1) j
  have h3 := (ev_is (L := L) (g := g) h2).le s i j hi hj (Ne.symm hne)
  have h4 : Tv L n g (n - 1) i ≤ Ev L n g (s + 1) i := by
    by_cases hlt : s + 1 ≤ n - 1
    · exact (tv_spec _ _).2 _ hlt
    · have e2 : s + 1 = n := by omega
      obtain ⟨t, ht, h⟩ := fewer_steps (ev_is (L := L) (g := g) h2) (q := p) hp i hi
      rw [e2]
      exact Rat.le_trans ((tv_spec _ _).2 t (by omega)) h
  rw [e]
  grind
theorem tv_up (h2 : 2 ≤ n) {t : Nat} {s : List Rat} {i : Nat} (hi : i < n) {s' : List Rat} (h1 : ∀ i, s'.getD i 0 ≤ s.getD i 0) (h3 : ∀ p ∈ liesV n, s'.getD p.1 0 ≤ (L p.1 p.2 : Rat) + g + s.getD p.2 0) (hs : ∀ i, i < n → s.getD i 0 ≤ Tv L n g t i) : s'.getD i 0 ≤ Tv L n g (t + 1) i := by
  obtain ⟨⟨u, hu, e⟩, _⟩ := tv_spec (L := L) (n := n) (g := g) (t + 1) i
  rw [e]
  by_cases hlt : u ≤ t
  · exact Rat.le_trans (h1 i) (Rat.le_trans (hs i hi) ((tv_spec _ _).2 u hlt))
  · have e2 : u = t + 1 := by omega
    subst e2
    obtain ⟨j, hj, hne, e3⟩ := (ev_is (L := L) (g := g) h2).att t i hi
    have a := h3 (i, j) (mem_lies.mpr ⟨hi, hj, Ne.symm hne⟩)
    have b := hs j hj
    have c := (tv_spec (L := L) (n := n) (g := g) t j).2 t (Nat.le_refl _)
    rw [e3]
    have a : s'.getD i 0 ≤ (L i j : Rat) + g + s.getD j 0 := a
    grind
end
end Tf
end
section
/-! least_sums, fees_within, nearest_fees. -/
namespace Ty
open PySem PySem.Spec PyProof.Rows L2
def PdF : Pd := ⟨fun _ _ => False, fun _ h => h⟩
theorem b_absurd {ι : Type} {X : ι → Cx} {Ga : List Sl} {sts : List Stmt} {n : Option (List Sl)} {R : Pd} {O : Option Mo} {k : Nat} (hk : Ga[k]? = some (.is PdF)) : TyB X Ga sts n R O := fun b σ G H D f kn kr => by
  obtain ⟨v, _, hp⟩ := f.si.get hk
  exact hp.elim
end Ty
namespace Tf
open PySem PySem.Spec PyProof.Rows L2 Ty
def s0L (L : Nat → Nat → Int) (n : Nat) (g : Rat) : List Rat := 0 :: (List.range (n - 1)).map fun i => (L (i + 1) 0 : Rat) + g
theorem s0L_len {L : Nat → Nat → Int} {n : Nat} {g : Rat} (h : 1 ≤ n) : (s0L L n g).length = n := by
  unfold s0L
  rw [List.length_cons, List.length_map, List.length_range]
  omega
theorem s0L_at {L : Nat → Nat → Int} {n : Nat} {g : Rat} {i : Nat} (hi : i < n) : (s0L L n g).getD i 0 = E0v L g i := by
  unfold s0L E0v
  cases i with
  | zero => rfl
  | succ i =>
    rw [if_neg (by omega), List.getD_eq_getElem?_getD, List.getElem?_cons_succ, List.getElem?_map, List.getElem?_range (by omega)]
    rfl
theorem s0L_out {L : Nat → Nat → Int} {n : Nat} {g : Rat} {i : Nat} (h1 : 1 ≤ n) (hi : ¬ i < n) : (s0L L n g).getD i 0 = 0 := by
  rw [List.getD_eq_getElem?_getD, List.getElem?_eq_none (by rw [s0L_len h1]; omega)]
  rfl
def passV (L : Nat → Nat → Int) (n : Nat) (g : Rat) (s : List Rat) : List Rat × Bool := (liesV n).foldl (bfStep L g) (s, false)
def al : Bool → Sl
  | true => .any
  | false => .is PdF
theorem lies_len {n : Nat} (h : n ≤ 6) : (liesV n).length ≤ 36 := by
  have : n = 0 ∨ n = 1 ∨ n = 2 ∨ n = 3 ∨ n = 4 ∨ n = 5 ∨ n = 6 := by omega
  rcases this with rfl | rfl | rfl | rfl | rfl | rfl | rfl <;> decide
theorem ixN_nat {n k : Nat} (h : k < n) : ixN n (k : Int) = some k := by
  unfold ixN
  rw [if_pos (by omega), if_pos (by omega), Int.toNat_natCast]
@[irreducible] def Bq (c : Nat) : Nat := 2 ^ 96 + c * 2 ^ 96
theorem Bq_eq (c : Nat) : Bq c = 2 ^ 96 + c * 2 ^ 96 := by unfold Bq; rfl
theorem Bq_over {c : Nat} {a g q : Rat} (ha : Q6 (2 ^ 90) a) (hg : Q6 (2 ^ 95) g) (hq : Q6 (Bq c) q) : Q6 (Bq (c + 1)) (a + g + q) := by
  refine ((ha.add hg).add hq).mono ?_
  have e1 := Bq_eq c
  have e2 := Bq_eq (c + 1)
  omega
theorem bf_q6 {L : Nat → Nat → Int} {g : Rat} (hL : ∀ k l, Q6 (2 ^ 90) (L k l : Rat)) (hg : Q6 (2 ^ 95) g) {n : Nat} : ∀ (ps : List (Nat × Nat)) (s : List Rat × Bool) (c : Nat), s.1.length = n → (∀ p ∈ ps, p.1 < n) → (∀ i, Q6 (Bq c) (s.1.getD i 0)) → ∀ i, Q6 (Bq (c + ps.length)) ((ps.foldl (bfStep L g) s).1.getD i 0)
  | [], s, c, _, _, h => h
  | p :: ps, s, c, hl, hp, h => fun i => by
    rw [List.foldl_cons, List.length_cons, show c + (ps.length + 1) = (c + 1) + ps.length by omega]
    refine bf_q6 hL hg ps (bfStep L g s p) (c + 1) ?_ (fun x hx => hp x (List.mem_cons_of_mem _ hx)) (fun j => ?_) i
    · unfold bfStep; split
      · exact List.length_set.trans hl
      · exact hl
    · unfold bfStep
      split
      · show Q6 _ ((s.1.set p.1 _).getD j 0)
        rw [getD_set (by rw [hl]; exact hp p List.mem_cons_self)]
        split
        · exact Bq_over (hL _ _) hg (h _)
        · exact (h j).mono (by have e1 := Bq_eq c; have e2 := Bq_eq (c + 1); omega)
      · exact (h j).mono (by have e1 := Bq_eq c; have e2 := Bq_eq (c + 1); omega)
/-- fees that n kinds may pay, no lie gains more than g -/
structure FeOk (L : Nat → Nat → Int) (n : Nat) (g : Rat) (qs : List Rat) : Prop where
  len : qs.length = n
  pot : Pot L n g fun i => qs.getD i 0
  sz : ∀ k, Q6 (2 ^ 150) (qs.getD k 0)
section
variable {P : Program} {w : World} {K : PySem.W.Frag} {mg : Str → Option Value} {base : Heap} {f : Addr} {fd : FuncData} {cR cF cW cU : Addr}
abbrev NLSu : List Str := ["worths", "rule", "most", "sums", "turn", "changed", "kind", "told", "over"]
theorem scLSu : FnScope NLSu ["worths", "rule", "most"] (defScope (top 47)) := ⟨rfl, rfl, rfl, by decide +kernel, rfl, by decide +kernel, by decide +kernel⟩
abbrev aSu (cR cW cU : Addr) (d : dWR × Rat) : List Pd := [Wo cW d.1.1, Ru cU d.1.2, Ra cR d.2]
structure sSu (d : dWR × Rat) : Prop where
  c2 : sC2 d.1
  pot : ∃ p, Pot (LV d.1) d.1.1.length d.2 p
  sz : Q6 (2 ^ 95) d.2
abbrev rSu (cR : Addr) (d : dWR × Rat) : Pd := Some' (FeOk (LV d.1) d.1.1.length d.2) fun qs => Ls (qs.map (Ra cR))
abbrev spSu (cR cW cU : Addr) : Sp := SpD (aSu cR cW cU) sSu (rSu cR)
theorem body_su (b : Fb mg) (r : RaM P w K mg base cR) (rw_ : WoF mg K cW) (m : GaM P w K mg base cR cF cW cU) (d : dWR × Rat) (h : sSu d) : BodyOk P w K mg base NLSu "least_sums" (defScope (top 47)) (defBody (top 47)) 7 (padG NLSu ((aSu cR cW cU d).map .is)) (rSu cR d) none := by
  intro f cdv Ar outer s H E fam
  have nd := scLSu.nd
  have hv := h.c2.1
  have n6 := hv.rc.n6
  have n2 := h.c2.2
  have hL : ∀ k l, (LV d.1 k l).natAbs ≤ 2 ^ 81 := lossV_bd hv
  have hLq : ∀ k l, Q6 (2 ^ 90) (LV d.1 k l : Rat) := Q6.loss hv
  obtain ⟨p0, hp0⟩ := h.pot
  generalize hn : d.1.1.length = n at *
  refine ⟨none, ?_, fun _ h => nomatch h⟩
  refine b_stM 3 (fun _ => nd) (M := Ml [Ra cR ((0 : Int) : Rat)]) (fun i => pe_lst (uA_pa i)) (n_lst (a_1 (e_rwhole fam r e_int)) len1) ?_
  have e1 : rgP 1 (((n : Nat) : Int) - 1).toNat = (List.range (n - 1)).map fun i => ni (i + 1) := by
    rw [show (((n : Nat) : Int) - 1).toNat = n - 1 by omega, rg_ni1]
  have hpost : ∀ {pre : List Nat} {a : Nat}, (∃ post, List.range n = pre ++ a :: post) → pre.length < n := fun {pre a} ⟨post, hp⟩ => by
    have := congrArg List.length hp
    rw [List.length_range, List.length_append, List.length_cons] at this
    omega
  refine b_ext (Gb := [.is (Wo cW d.1.1), .is (Ru cU d.1.2), .is (Ra cR d.2), .mu (Ml [Ra cR ((0 : Int) : Rat)]), .any, .any, .any, .any, .any]) (Rs := [Ra cR ((0 : Int) : Rat)]) (fun _ => rfl) (fun _ => pv 3) (i := 3) rfl .mu (TyE.eq (P' := Ls (((List.range (n - 1)).map fun i => (LV d.1 (i + 1) 0 : Rat) + d.2).map (Ra cR))) (e_lcN (ds := List.range (n - 1)) (it := fun i => ni (i + 1)) (f := fun i => Ra cR ((LV d.1 (i + 1) 0 : Rat) + d.2)) 6 (fun _ => nd) (fun _ => rfl) ?_ (fun i hi => ?_) (by rw [List.length_range, sizeLine_eq]; omega) (fun i M h z => by subst z; cases h)) (by rw [List.map_map]; rfl)) rfl .mu (by rw [sizeLine_eq, List.length_map, List.length_map, List.length_range, List.length_singleton]; omega) ?_
  · rw [← e1]
    exact i_range2 (fun _ => rfl) (fun _ => b.range) (a_2 e_int (TyE.eq (e_kinds rw_ (fun _ => rfl) (vr 0)) (by rw [hn]))) ⟨by omega, by omega, by omega, by omega⟩
  · have hi' := List.mem_range.mp hi
    exact e_radd fam.blk r (e_rwhole fam.blk r (e_gf fam.blk m.lo (d.1, i + 1, 0) (fun _ => rfl) (a_cons (vr 0) (a_cons (vr 1) (a_2 (vr 6) e_int))) ⟨hv, by show i + 1 < d.1.1.length; omega, by show 0 < d.1.1.length; omega⟩)) (vr 2) ((hLq _ _).sz (by decide)) (h.sz.sz (by decide))
  · refine b_forF (List.range n) ni (fun z : List Rat × Bool => [.is (Wo cW d.1.1), .is (Ru cU d.1.2), .is (Ra cR d.2), .mu (Ml (z.1.map (Ra cR))), .any, .any, .any, .any, al z.2]) (fun z t => [.is (Wo cW d.1.1), .is (Ru cU d.1.2), .is (Ra cR d.2), .mu (Ml (z.1.map (Ra cR))), .is (ni t), .any, .any, .any, al z.2])
      (fun z t => ((passV (LV d.1) n d.2 z.1).1, z.2 && (passV (LV d.1) n d.2 z.1).2)) (s0L (LV d.1) n d.2, true) (fun pre z => z.1.length = n ∧ (∀ i, Q6 (Bq (36 * pre.length)) (z.1.getD i 0)) ∧ (∀ i, i < n → Tv (LV d.1) n d.2 (n - 1) i ≤ z.1.getD i 0 ∧ z.1.getD i 0 ≤ Tv (LV d.1) n d.2 pre.length i) ∧ (z.2 = true → pre.length < n)) ?_ (fun _ => rfl) (fun _ => rfl)
      (i_rng (fun _ => b.range) (TyE.eq (e_kinds rw_ (fun _ => rfl) (vr 0)) (by rw [hn])) (by omega)) (fun z t _ => g_nm 4 (fun _ => nd)) (fun pre z t ht hz hpo => ?_) (fun pre z t ht hz hpo => ?_) fun hz => ?_
    · refine ⟨s0L_len (by omega), fun i => ?_, fun i hi => ?_, fun _ => by show 0 < n; omega⟩
      · by_cases hi : i < n
        · show Q6 _ ((s0L (LV d.1) n d.2).getD i 0)
          rw [s0L_at hi]
          unfold E0v
          split
          · exact (Q6.int (n := 0) (B := 0) (by decide)).mono (by decide)
          · exact ((hLq i 0).add h.sz).mono (by have e := Bq_eq (36 * ([] : List Nat).length); omega)
        · show Q6 _ ((s0L (LV d.1) n d.2).getD i 0)
          rw [s0L_out (by omega) hi]
          exact (Q6.int (n := 0) (B := 0) (by decide)).mono (by decide)
      · have e : (s0L (LV d.1) n d.2).getD i 0 = Ev (LV d.1) n d.2 0 i := s0L_at hi
        rw [e]
        refine ⟨(tv_spec _ _).2 0 (Nat.zero_le _), ?_⟩
        obtain ⟨⟨u, hu, eu⟩, _⟩ := tv_spec (L := LV d.1) (n := n) (g := d.2) 0 i
        have : u = 0 := by have : u ≤ 0 := hu; omega
        subst this
        show _ ≤ Tv (LV d.1) n d.2 0 i
        rw [eu]
        exact Rat.le_refl
    · obtain ⟨z1, z2⟩ := z
      obtain ⟨hz1, hz2, hz3, hz4⟩ := hz
      cases z2 with
      | false => exact b_absurd (k := 8) rfl
      | true =>
        have hpl := hpost hpo
        refine b_st 5 (fun _ => nd) e_bl ?_
        refine b_forF (liesV n) pairP (fun y : List Rat × Bool => [.is (Wo cW d.1.1), .is (Ru cU d.1.2), .is (Ra cR d.2), .mu (Ml (y.1.map (Ra cR))), .is (ni t), .is (IsB y.2), .any, .any, .any]) (fun y p => [.is (Wo cW d.1.1), .is (Ru cU d.1.2), .is (Ra cR d.2), .mu (Ml (y.1.map (Ra cR))), .is (ni t), .is (IsB y.2), .is (ni p.1), .is (ni p.2), .any])
          (bfStep (LV d.1) d.2) (z1, false) (fun pre' y => y.1.length = n ∧ ∀ i, Q6 (Bq (36 * pre.length + pre'.length)) (y.1.getD i 0)) ⟨hz1, hz2⟩ (fun _ => rfl) (fun _ => rfl) (i_list (fun _ => rfl) (e_gf fam m.li n (fun _ => rfl) (a_1 (TyE.eq (e_kinds rw_ (fun _ => rfl) (vr 0)) (by rw [hn]))) n6)) (fun y p _ => g_pr 6 7 (fun _ => rfl) (fun _ => rfl) (fun _ => nd)) (fun pre' y p hp hy hpo' => ?_) (fun pre' y p hp hy hpo' => ?_) fun hy => ?_
        · obtain ⟨y1, y2⟩ := y
          obtain ⟨hy1, hy2⟩ := hy
          have hp' := mem_lies.mp hp
          have hlen' : pre'.length ≤ 36 := by
            obtain ⟨post, e⟩ := hpo'
            have := congrArg List.length e
            rw [List.length_append, List.length_cons] at this
            have := lies_len (n := n) n6
            omega
          have hz' : ∀ i, Sz (y1.getD i 0) := fun i => (hy2 i).sz (by have e1 := Bq_eq (36 * pre.length + pre'.length); omega)
          have hov : Sz ((LV d.1 p.1 p.2 : Rat) + d.2 + y1.getD p.2 0) := (Bq_over (hLq p.1 p.2) h.sz (hy2 p.2)).sz (by have e1 := Bq_eq (36 * pre.length + pre'.length + 1); omega)
          have at_ : ∀ i, i < n → atI (y1.map (Ra cR)) ((i : Nat) : Int) = some (Ra cR (y1.getD i 0)) := fun i hi => at_map (d := 0) (by have : y1.length = n := hy1; omega)
          refine b_st 8 (fun _ => nd) (P := Ra cR ((LV d.1 p.1 p.2 : Rat) + d.2 + y1.getD p.2 0)) (e_radd fam r (e_radd fam r (e_rwhole fam r (e_gf fam m.lo (d.1, p) (fun _ => rfl) (a_cons (vr 0) (a_cons (vr 1) (a_2 (vr 6) (vr 7)))) ⟨hv, by show p.1 < d.1.1.length; rw [hn]; exact hp'.1, by show p.2 < d.1.1.length; rw [hn]; exact hp'.2.1⟩)) (vr 2) ((hLq _ _).sz (by decide)) (h.sz.sz (by decide))) (e_ixM (fun _ => rfl) (fun _ => pv 3) ⟨_, rfl, .mu⟩ (vr 7) rfl .mu (at_ p.2 hp'.2.1)) (((hLq _ _).add h.sz).sz (by decide)) (hz' _)) ?_
          refine b_if (t_val (e_runder fam r (vr 8) (e_ixM (fun _ => rfl) (fun _ => pv 3) ⟨_, rfl, .mu⟩ (vr 6) rfl .mu (at_ p.1 hp'.1)) hov (hz' _))) (fun hb => ?_) (fun hb => b_nil ?_) (b_nil (GaLe.refl _))
          · have e : bfStep (LV d.1) d.2 (y1, y2) p = (y1.set p.1 ((LV d.1 p.1 p.2 : Rat) + d.2 + y1.getD p.2 0), true) := if_pos (of_decide_eq_true hb)
            rw [e]
            refine b_setI (i := 3) (fun _ => pv 3) (vr 8) ⟨_, rfl, .mu (M := Ml (y1.map (Ra cR))) (M' := Ml (y1.map (Ra cR)))⟩ (vr 6) rfl .mu (ixN_nat (by rw [List.length_map]; have : y1.length = n := hy1; omega)) ?_
            refine b_st 5 (fun _ => nd) e_bl (b_nil ?_)
            rw [← List.map_set]
            exact .cons .rfl (.cons .rfl (.cons .rfl (.cons .rfl (.cons .rfl (.cons .rfl (.cons .any (.cons .any (.cons .any .nil))))))))
          · have e : bfStep (LV d.1) d.2 (y1, y2) p = (y1, y2) := if_neg (of_decide_eq_false hb)
            rw [e]
            exact .cons .rfl (.cons .rfl (.cons .rfl (.cons .rfl (.cons .rfl (.cons .rfl (.cons .any (.cons .any (.cons .any .nil))))))))
        · obtain ⟨hy1, hy2⟩ := hy
          have hp' := mem_lies.mp hp
          have k1 := (bf_spec (L := LV d.1) (g := d.2) [p] y (fun x hx => by rw [List.mem_singleton.mp hx, hy1]; exact hp'.1)).1
          have k2 := bf_q6 hLq h.sz [p] y _ hy1 (fun x hx => by rw [List.mem_singleton.mp hx]; exact hp'.1) hy2
          exact ⟨k1.trans hy1, fun i => by rw [List.length_append, ← Nat.add_assoc]; exact k2 i⟩
        · obtain ⟨hy1, hy2⟩ := hy
          have sp := bf_spec (L := LV d.1) (g := d.2) (liesV n) (z1, false) (fun x hx => by rw [show (z1, false).1.length = n from hz1]; exact (mem_lies.mp hx).1)
          have ef : (liesV n).foldl (bfStep (LV d.1) d.2) (z1, false) = passV (LV d.1) n d.2 z1 := rfl
          rw [ef] at hy1 hy2 sp ⊢
          have hy2 : ∀ i, Q6 (Bq (36 * pre.length + (liesV n).length)) ((passV (LV d.1) n d.2 z1).1.getD i 0) := hy2
          cases hc : (passV (LV d.1) n d.2 z1).2 with
          | false =>
            refine b_ifr (b := true) ((t_not (t_val (vr 5))).eq rfl) (fun _ => ?_) (fun h => nomatch h)
            have hfe : FeOk (LV d.1) n d.2 (passV (LV d.1) n d.2 z1).1 := ?_
            refine b_freeze (k := 3) (P := Ls ((passV (LV d.1) n d.2 z1).1.map (Ra cR))) rfl Ml.known ?_
            refine b_ret ((vr 3).conv fun v G hp => ⟨(passV (LV d.1) n d.2 z1).1, (by rw [hn]; exact hfe), hp⟩) OwnAt.none
            refine ⟨hy1, fun i j hi hj hne => ?_, fun k => (hy2 k).mono ?_⟩
            · obtain ⟨_, e2, e3⟩ := sp.2.2.2.1 hc
              rw [e2]
              have := e3 (i, j) (mem_lies.mpr ⟨hi, hj, hne⟩)
              have this : z1.getD i 0 ≤ (LV d.1 i j : Rat) + d.2 + z1.getD j 0 := this
              grind
            · have := lies_len (n := n) n6
              have e1 := Bq_eq (36 * pre.length + (liesV n).length)
              omega
          | true =>
            refine b_ifr (b := false) ((t_not (t_val (vr 5))).eq rfl) (fun h => nomatch h) (fun _ => b_nil ?_)
            exact .cons .rfl (.cons .rfl (.cons .rfl (.cons .rfl (.cons .any (.cons .any (.cons .any (.cons .any (.cons .any .nil))))))))
    · obtain ⟨z1, z2⟩ := z
      obtain ⟨hz1, hz2, hz3, hz4⟩ := hz
      have hpl := hpost hpo
      have hm : ∀ x ∈ liesV n, x.1 < n := fun x hx => (mem_lies.mp hx).1
      have sp := bf_spec (L := LV d.1) (g := d.2) (liesV n) (z1, false) (fun x hx => by rw [show (z1, false).1.length = n from hz1]; exact hm x hx)
      have ef : (liesV n).foldl (bfStep (LV d.1) d.2) (z1, false) = passV (LV d.1) n d.2 z1 := rfl
      have lw := bf_low (n := n) (D := Tv (LV d.1) n d.2 (n - 1)) (tv_fix n2 hp0) (liesV n) (z1, false) hz1 (fun x hx => mem_lies.mp hx) (fun i hi => (hz3 i hi).1)
      have q6 := bf_q6 hLq h.sz (liesV n) (z1, false) _ hz1 hm hz2
      rw [ef] at sp lw q6
      refine ⟨sp.1.trans hz1, fun i => ?_, fun i hi => ⟨lw i hi, ?_⟩, fun hfl => ?_⟩
      · refine (q6 i).mono ?_
        have := lies_len (n := n) n6
        rw [List.length_append, List.length_singleton]
        have e1 := Bq_eq (36 * pre.length + (liesV n).length)
        have e2 := Bq_eq (36 * (pre.length + 1))
        omega
      · rw [List.length_append, List.length_singleton]
        exact tv_up n2 (s := z1) hi sp.2.1 sp.2.2.1 fun i hi => (hz3 i hi).2
      · have hfl : (z2 && (passV (LV d.1) n d.2 z1).2) = true := hfl
        rw [Bool.and_eq_true] at hfl
        have := hz4 hfl.1
        rw [List.length_append, List.length_singleton]
        by_cases hq : pre.length = n - 1
        · exfalso
          have h5 := sp.2.2.2.2 fun x hx => by
            have hx' := mem_lies.mp hx
            have a := (hz3 x.1 hx'.1).2
            have b := (hz3 x.2 hx'.2.1).1
            have c := tv_fix (L := LV d.1) (g := d.2) n2 hp0 x.1 x.2 hx'.1 hx'.2.1 hx'.2.2
            rw [hq] at a
            show z1.getD x.1 0 ≤ (LV d.1 x.1 x.2 : Rat) + d.2 + z1.getD x.2 0
            have a : z1.getD x.1 0 ≤ Tv (LV d.1) n d.2 (n - 1) x.1 := a
            have b : Tv (LV d.1) n d.2 (n - 1) x.2 ≤ z1.getD x.2 0 := b
            grind
          rw [h5] at hfl
          exact absurd hfl.2 (fun z => nomatch z)
        · omega
    · obtain ⟨hz1, hz2, hz3, hz4⟩ := hz
      generalize (List.foldl _ _ _ : List Rat × Bool) = z at hz1 hz2 hz3 hz4 ⊢
      obtain ⟨z1, z2⟩ := z
      rw [List.length_range] at hz4
      cases z2 with
      | true => exact absurd (hz4 rfl) (Nat.lt_irrefl _)
      | false => exact b_absurd (k := 8) rfl
end
end Tf
end
section
/-! fees_within, nearest_fees. -/
namespace Tf
open PySem PySem.Spec PyProof.Rows L2 Ty
section
variable {P : Program} {w : World} {K : PySem.W.Frag} {mg : Str → Option Value} {base : Heap} {f : Addr} {fd : FuncData} {cR cF cW cU : Addr}
theorem ls_ref {Ps : List Pd} {v : V} {G : Hp} (h : (Ls Ps).p v G) : v ≠ .non := by
  obtain ⟨a, xs, rfl, _⟩ := h
  exact fun h => nomatch h
abbrev NFW : List Str := ["worths", "rule", "most", "sums"]
theorem scFW : FnScope NFW ["worths", "rule", "most"] (defScope (top 48)) := ⟨rfl, rfl, rfl, by decide +kernel, rfl, by decide +kernel, by decide +kernel⟩
theorem scNF : FnScope ["worths", "rule"] ["worths", "rule"] (defScope (top 49)) := ⟨rfl, rfl, rfl, by decide +kernel, rfl, by decide +kernel, by decide +kernel⟩
abbrev rFW (cR cF : Addr) (d : dWR × Rat) : Pd := Some' (FeOk (LV d.1) d.1.1.length d.2) fun qs => Fe cR cF qs
abbrev spFW (cR cF cW cU : Addr) : Sp := SpD (aSu cR cW cU) sSu (rFW cR cF)
abbrev spNF (cR cF cW cU : Addr) : Sp := SpD (aWR cW cU) sC2 (fun d => rFW cR cF (d, lgV (LV d) d.1.length))
theorem body_fw (ff : FeF mg K cF) (C2 : Gf P w K mg base 6 "check_two" (spC2 cW cU)) (SU : Gf P w K mg base 8 "least_sums" (spSu cR cW cU)) (mf : Mkf P w K mg base 1 cF (spFI cR cF)) (d : dWR × Rat) (h : sSu d) : BodyOk P w K mg base NFW "fees_within" (defScope (top 48)) (defBody (top 48)) 8 (padG NFW ((aSu cR cW cU d).map .is)) (rFW cR cF d) none := by
  intro f cdv Ar outer s H E fam
  have nd := scFW.nd
  refine ⟨none, ?_, fun _ h => nomatch h⟩
  refine b_expr (e_gf fam C2 d.1 (fun _ => rfl) (a_2 (vr 0) (vr 1)) h.c2) ?_
  refine b_st 3 (fun _ => nd) (e_gf fam SU d (fun _ => rfl) (a_cons (vr 0) (a_2 (vr 1) (vr 2))) h) ?_
  refine b_open (k := 3) rfl fun qs hq => ?_
  refine b_guard (t_isN' (vr 3) fun v G => ls_ref) rfl ?_
  exact b_ret (TyE.conv (e_mkS fam mf qs (fun _ => rfl) ff.glo (TyE.conv (vr 3 (P := Ls (qs.map (Ra cR)))) fun _ _ h => Ls.sq h) ⟨by rw [hq.len]; exact h.c2.1.rc.n1, by rw [hq.len]; exact h.c2.1.rc.n6⟩) fun v G hp => ⟨qs, hq, hp⟩) OwnAt.none
theorem body_nf (LG : Gf P w K mg base 10 "least_gain" (spLG cR cW cU)) (FW : Gf P w K mg base 9 "fees_within" (spFW cR cF cW cU)) (d : dWR) (h : sC2 d) : BodyOk P w K mg base ["worths", "rule"] "nearest_fees" (defScope (top 49)) (defBody (top 49)) 10 (padG ["worths", "rule"] ((aWR cW cU d).map .is)) (rFW cR cF (d, lgV (LV d) d.1.length)) none := by
  intro f cdv Ar outer s H E fam
  refine ⟨none, ?_, fun _ h => nomatch h⟩
  exact b_ret (e_gf fam FW (d, lgV (LV d) d.1.length) (fun _ => rfl) (a_cons (vr 0) (a_2 (vr 1) (e_gf fam LG d (fun _ => rfl) (a_2 (vr 0) (vr 1)) h))) ⟨h, karp_pot h.2, (lmV_q6 (lossV_bd h.1) h.1.rc.n1 h.1.rc.n6).neg⟩) OwnAt.none
end
end Tf
end
section
/-! Least sums of ways from kind to kind. -/
namespace Tf
abbrev FwSt := (Nat × Nat → Int) × (Nat × Nat → List Nat)
def overV (m : Nat) (D : Nat × Nat → Int) (p : Nat × Nat) : Int := D (p.1, m) + D (m, p.2)
def fwC (m : Nat) (D : Nat × Nat → Int) (p : Nat × Nat) : Bool := !decide (m = p.1) && !decide (m = p.2) && decide (overV m D p < D p)
def wayV (m : Nat) (W : Nat × Nat → List Nat) (p : Nat × Nat) : List Nat := W (p.1, m) ++ (W (m, p.2)).tail
def fwS (m : Nat) (s : FwSt) (p : Nat × Nat) : FwSt := if fwC m s.1 p = true then (fun x => if x = p then overV m s.1 p else s.1 x, fun x => if x = p then wayV m s.2 p else s.2 x) else s
def fwB (n m : Nat) (s : FwSt) : FwSt := (liesV n).foldl (fwS m) s
def fwN (n m : Nat) (D : Nat × Nat → Int) : Bool := (List.range n).any fun i => !decide (i = m) && decide (D (i, m) + D (m, i) < 0)
def fw0 (L : Nat → Nat → Int) : FwSt := (fun p => if p.1 = p.2 then 0 else L p.1 p.2, fun p => if p.1 = p.2 then [p.1] else [p.1, p.2])
def fwT (n : Nat) (o : Option FwSt) (m : Nat) : Option FwSt := match o with
  | none => none
  | some s => if fwN n m s.1 = true then none else some (fwB n m s)
def fwV (L : Nat → Nat → Int) (n : Nat) : Option FwSt := (List.range n).foldl (fwT n) (some (fw0 L))
theorem fwC_iff {m : Nat} {D : Nat × Nat → Int} {p : Nat × Nat} : fwC m D p = true ↔ m ≠ p.1 ∧ m ≠ p.2 ∧ overV m D p < D p := by
  unfold fwC
  simp [and_assoc]
theorem fw_run {m : Nat} : ∀ (ps : List (Nat × Nat)) (s : FwSt), (∀ p, (ps.foldl (fwS m) s).1 p = if p ∈ ps ∧ fwC m s.1 p = true then overV m s.1 p else s.1 p) ∧ ∀ p, (ps.foldl (fwS m) s).2 p = if p ∈ ps ∧ fwC m s.1 p = true then wayV m s.2 p else s.2 p
  | [], s => ⟨fun p => by simp, fun p => by simp⟩
  | p0 :: ps, s => by
    obtain ⟨h1, h2⟩ := fw_run (m := m) ps (fwS m s p0)
    have eo : ∀ p, overV m (fwS m s p0).1 p = overV m s.1 p ∧ wayV m (fwS m s p0).2 p = wayV m s.2 p := fun p => by
      unfold fwS
      split
      · rename_i hc
        have hc := fwC_iff.mp hc
        have n1 : ¬ ((p.1, m) = p0) := fun z => hc.2.1 (by rw [← z])
        have n2 : ¬ ((m, p.2) = p0) := fun z => hc.1 (by rw [← z])
        refine ⟨?_, ?_⟩
        · show (if (p.1, m) = p0 then _ else _) + (if (m, p.2) = p0 then _ else _) = _
          rw [if_neg n1, if_neg n2]; rfl
        · show (if (p.1, m) = p0 then _ else _) ++ (if (m, p.2) = p0 then _ else _ : List Nat).tail = _
          rw [if_neg n1, if_neg n2]; rfl
      · exact ⟨rfl, rfl⟩
    have ec : ∀ p, p ≠ p0 → (fwS m s p0).1 p = s.1 p ∧ (fwS m s p0).2 p = s.2 p := fun p hp => by
      unfold fwS
      split
      · exact ⟨if_neg hp, if_neg hp⟩
      · exact ⟨rfl, rfl⟩
    have cc : ∀ p, p ≠ p0 → fwC m (fwS m s p0).1 p = fwC m s.1 p := fun p hp => by
      unfold fwC
      rw [(eo p).1, (ec p hp).1]
    have c0 : fwC m (fwS m s p0).1 p0 = true → False := fun z => by
      have hz := fwC_iff.mp z
      rw [(eo p0).1] at hz
      have : (fwS m s p0).1 p0 ≤ overV m s.1 p0 := by
        unfold fwS
        split
        · exact Int.le_of_eq (if_pos rfl)
        · rename_i hc
          refine Int.not_lt.mp fun z2 => hc (fwC_iff.mpr ⟨hz.1, hz.2.1, z2⟩)
      omega
    constructor
    · intro p
      show (ps.foldl (fwS m) (fwS m s p0)).1 p = _
      rw [h1 p, (eo p).1]
      by_cases hp : p = p0
      · subst hp
        rw [if_neg (fun z => c0 z.2)]
        by_cases hc : fwC m s.1 p = true
        · rw [if_pos ⟨List.mem_cons_self, hc⟩]
          unfold fwS
          rw [if_pos hc]
          exact if_pos rfl
        · rw [if_neg (fun z => hc z.2)]
          unfold fwS
          rw [if_neg hc]
      · rw [cc p hp, (ec p hp).1]
        simp [hp]
    · intro p
      show (ps.foldl (fwS m) (fwS m s p0)).2 p = _
      rw [h2 p, (eo p).2]
      by_cases hp : p = p0
      · subst hp
        rw [if_neg (fun z => c0 z.2)]
        by_cases hc : fwC m s.1 p = true
        · rw [if_pos ⟨List.mem_cons_self, hc⟩]
          unfold fwS
          rw [if_pos hc]
          exact if_pos rfl
        · rw [if_neg (fun z => hc z.2)]
          unfold fwS
          rw [if_neg hc]
      · rw [cc p hp, (ec p hp).2]
        simp [hp]
/-! ### what the sums tell -/
structure FwI (L : Nat → Nat → Int) (n k : Nat) (D : Nat × Nat → Int) : Prop where
  diag : ∀ i, i < n → D (i, i) = 0
  le : ∀ i j, i < n → j < n → i ≠ j → D (i, j) ≤ L i j
  tri : ∀ i j m, i < n → j < n → m < k → D (i, j) ≤ D (i, m) + D (m, j)
  up : ∀ p : Nat → Rat, Pot L n 0 p → ∀ i j, i < n → j < n → p i - p j ≤ (D (i, j) : Rat)
theorem fw0_I {L : Nat → Nat → Int} {n : Nat} : FwI L n 0 (fw0 L).1 := by
  refine ⟨fun i _ => if_pos rfl, fun i j _ _ h => ?_, fun i j m _ _ h => absurd h (Nat.not_lt_zero _), fun p hp i j hi hj => ?_⟩
  · show (if i = j then (0 : Int) else L i j) ≤ L i j
    rw [if_neg h]; exact Int.le_refl _
  · show p i - p j ≤ ((if i = j then (0 : Int) else L i j : Int) : Rat)
    by_cases h : i = j
    · subst h; rw [if_pos rfl]
      have : ((0 : Int) : Rat) = 0 := rfl
      rw [this]; grind
    · rw [if_neg h]
      have := hp i j hi hj h
      grind
theorem fwB_at {n m : Nat} {s : FwSt} {i j : Nat} (hi : i < n) (hj : j < n) (hne : i ≠ j) : (fwB n m s).1 (i, j) = if fwC m s.1 (i, j) = true then overV m s.1 (i, j) else s.1 (i, j) := by
  unfold fwB
  rw [(fw_run (liesV n) s).1 (i, j)]
  have : (i, j) ∈ liesV n := mem_lies.mpr ⟨hi, hj, hne⟩
  simp [this]
theorem fwB_eq {n m : Nat} {s : FwSt} {i : Nat} : (fwB n m s).1 (i, i) = s.1 (i, i) := by
  unfold fwB
  rw [(fw_run (liesV n) s).1 (i, i)]
  have : (i, i) ∉ liesV n := fun z => (mem_lies.mp z).2.2 rfl
  simp [this]
theorem fwB_I {L : Nat → Nat → Int} {n k : Nat} {s : FwSt} (h : FwI L n k s.1) (hk : k < n) (hn : fwN n k s.1 = false) : FwI L n (k + 1) (fwB n k s).1 := by
  have hc : ∀ i, i < n → 0 ≤ s.1 (i, k) + s.1 (k, i) := fun i hi => by
    by_cases e : i = k
    · subst e; rw [h.diag i hi]; exact Int.le_refl _
    · unfold fwN at hn
      rw [List.any_eq_false] at hn
      have := hn i (List.mem_range.mpr hi)
      simp [e] at this
      exact this
  have hD : ∀ i j, i < n → j < n → (fwB n k s).1 (i, j) ≤ s.1 (i, j) ∧ (fwB n k s).1 (i, j) ≤ s.1 (i, k) + s.1 (k, j) ∧ ((fwB n k s).1 (i, j) = s.1 (i, j) ∨ (fwB n k s).1 (i, j) = s.1 (i, k) + s.1 (k, j)) := fun i j hi hj => by
    by_cases e : i = j
    · subst e
      rw [fwB_eq]
      exact ⟨Int.le_refl _, by rw [h.diag i hi]; exact hc i hi, .inl rfl⟩
    · rw [fwB_at hi hj e]
      by_cases c : fwC k s.1 (i, j) = true
      · rw [if_pos c]
        have c' := fwC_iff.mp c
        exact ⟨Int.le_of_lt c'.2.2, Int.le_refl _, .inr rfl⟩
      · rw [if_neg c]
        refine ⟨Int.le_refl _, ?_, .inl rfl⟩
        by_cases e1 : k = i
        · subst e1; rw [h.diag k hk]; omega
        · by_cases e2 : k = j
          · subst e2; rw [h.diag k hk]; omega
          · exact Int.not_lt.mp fun z => c (fwC_iff.mpr ⟨e1, e2, z⟩)
  refine ⟨fun i hi => by rw [fwB_eq]; exact h.diag i hi, fun i j hi hj hne => Int.le_trans (hD i j hi hj).1 (h.le i j hi hj hne), fun i j m hi hj hm => ?_, fun p hp i j hi hj => ?_⟩
  · have hmn : m < n := by omega
    obtain ⟨a1, a2, _⟩ := hD i j hi hj
    obtain ⟨_, _, b3⟩ := hD i m hi hmn
    obtain ⟨_, _, c3⟩ := hD m j hmn hj
    have kk := h.diag k hk
    have km := hc m hmn
    by_cases e : m = k
    · subst e
      rcases b3 with b3 | b3 <;> rcases c3 with c3 | c3 <;> rw [b3, c3] <;> omega
    · have hmk : m < k := by omega
      have t1 := h.tri i j m hi hj hmk
      have t2 := h.tri i k m hi hk hmk
      have t3 := h.tri k j m hk hj hmk
      rcases b3 with b3 | b3 <;> rcases c3 with c3 | c3 <;> rw [b3, c3] <;> omega
  · obtain ⟨_, _, a3⟩ := hD i j hi hj
    rcases a3 with a3 | a3
    · rw [a3]; exact h.up p hp i j hi hj
    · rw [a3]
      have u1 := h.up p hp i k hi hk
      have u2 := h.up p hp k j hk hj
      rw [Rat.intCast_add]
      grind
theorem fw_go {L : Nat → Nat → Int} {n : Nat} : ∀ k, k ≤ n → (∀ s, (List.range k).foldl (fwT n) (some (fw0 L)) = some s → FwI L n k s.1) ∧ ((List.range k).foldl (fwT n) (some (fw0 L)) = none → ∀ p, ¬ Pot L n 0 p)
  | 0, _ => ⟨fun s h => by cases h; exact fw0_I, fun h => nomatch h⟩
  | k + 1, hk => by
    obtain ⟨h1, h2⟩ := fw_go (L := L) (n := n) k (by omega)
    rw [List.range_succ, List.foldl_append]
    show (∀ s, fwT n ((List.range k).foldl (fwT n) (some (fw0 L))) k = some s → _) ∧ (fwT n ((List.range k).foldl (fwT n) (some (fw0 L))) k = none → _)
    cases e : (List.range k).foldl (fwT n) (some (fw0 L)) with
    | none => exact ⟨fun s h => (nomatch h), fun _ => h2 e⟩
    | some s =>
      have I := h1 s e
      cases c : fwN n k s.1 with
      | true =>
        have e1 : fwT n (some s) k = none := if_pos c
        rw [e1]
        refine ⟨fun s h => (nomatch h), fun _ p hp => ?_⟩
        unfold fwN at c
        rw [List.any_eq_true] at c
        obtain ⟨i, hi, hc⟩ := c
        have hi := List.mem_range.mp hi
        have hc : ¬ i = k ∧ s.1 (i, k) + s.1 (k, i) < 0 := by simpa using hc
        have u1 := I.up p hp i k hi (by omega)
        have u2 := I.up p hp k i (by omega) hi
        have u3 : ((s.1 (i, k) + s.1 (k, i) : Int) : Rat) < ((0 : Int) : Rat) := Rat.intCast_lt_intCast.mpr hc.2
        rw [Rat.intCast_add] at u3
        have : ((0 : Int) : Rat) = 0 := rfl
        grind
      | false =>
        have e1 : fwT n (some s) k = some (fwB n k s) := if_neg (by rw [c]; exact Bool.false_ne_true)
        rw [e1]
        exact ⟨fun s' h => by cases h; exact fwB_I I (by omega) c, fun h => nomatch h⟩
/-- the closed sums -/
structure Clo (L : Nat → Nat → Int) (n : Nat) (D : Nat × Nat → Int) : Prop where
  diag : ∀ i, i < n → D (i, i) = 0
  le : ∀ i j, i < n → j < n → i ≠ j → D (i, j) ≤ L i j
  tri : ∀ i j m, i < n → j < n → m < n → D (i, j) ≤ D (i, m) + D (m, j)
  up : ∀ p : Nat → Rat, Pot L n 0 p → ∀ i j, i < n → j < n → p i - p j ≤ (D (i, j) : Rat)
theorem fw_clo {L : Nat → Nat → Int} {n : Nat} {s : FwSt} (h : fwV L n = some s) : Clo L n s.1 := let I := (fw_go n (Nat.le_refl _)).1 s h; ⟨I.diag, I.le, I.tri, I.up⟩
theorem fw_none {L : Nat → Nat → Int} {n : Nat} (h : fwV L n = none) : ∀ p, ¬ Pot L n 0 p := (fw_go n (Nat.le_refl _)).2 h
theorem Clo.pot {L : Nat → Nat → Int} {n : Nat} {D : Nat × Nat → Int} (h : Clo L n D) {k : Nat} (hk : k < n) : Pot L n 0 fun i => (D (i, k) : Rat) := fun i j hi hj hne => by
  have h1 := h.tri i k j hi hk hj
  have h2 := h.le i j hi hj hne
  have h3 : D (i, k) - D (j, k) ≤ L i j := by omega
  have h4 : ((D (i, k) - D (j, k) : Int) : Rat) ≤ (L i j : Rat) := Rat.intCast_le_intCast.mpr h3
  rw [Rat.intCast_sub] at h4
  grind
theorem Clo.pot2 {L : Nat → Nat → Int} {n : Nat} {D : Nat × Nat → Int} (h : Clo L n D) {k : Nat} (hk : k < n) : Pot L n 0 fun i => -(D (k, i) : Rat) := fun i j hi hj hne => by
  have h1 := h.tri k j i hk hj hi
  have h2 := h.le i j hi hj hne
  have h3 : D (k, j) - D (k, i) ≤ L i j := by omega
  have h4 : ((D (k, j) - D (k, i) : Int) : Rat) ≤ (L i j : Rat) := Rat.intCast_le_intCast.mpr h3
  rw [Rat.intCast_sub] at h4
  grind
theorem Clo.uniq {L : Nat → Nat → Int} {n : Nat} {D D' : Nat × Nat → Int} (h : Clo L n D) (h' : Clo L n D') : ∀ i j, i < n → j < n → D (i, j) = D' (i, j) := by
  have key : ∀ {D D' : Nat × Nat → Int}, Clo L n D → Clo L n D' → ∀ i j, i < n → j < n → D (i, j) ≤ D' (i, j) := fun {D D'} h h' i j hi hj => by
    have := h'.up _ (h.pot hj) i j hi hj
    rw [h.diag j hj] at this
    have e : ((0 : Int) : Rat) = 0 := rfl
    refine Rat.intCast_le_intCast.mp ?_
    grind
  exact fun i j hi hj => Int.le_antisymm (key h h' i j hi hj) (key h' h i j hi hj)
theorem Clo.bd {L : Nat → Nat → Int} {n B : Nat} {D : Nat × Nat → Int} (h : Clo L n D) (hB : ∀ i j, (L i j).natAbs ≤ B) {i j : Nat} (hi : i < n) (hj : j < n) : (D (i, j)).natAbs ≤ B := by
  by_cases e : i = j
  · subst e; rw [h.diag i hi]; exact Nat.zero_le _
  · have h1 := h.le i j hi hj e
    have h2 := h.le j i hj hi (Ne.symm e)
    have h3 := h.tri i i j hi hi hj
    rw [h.diag i hi] at h3
    have b1 := hB i j
    have b2 := hB j i
    omega
theorem clo_pot {L : Nat → Nat → Int} {n : Nat} : (∃ s, fwV L n = some s) ↔ ∃ p, Pot L n 0 p := by
  constructor
  · rintro ⟨s, hs⟩
    by_cases h0 : 0 < n
    · exact ⟨_, (fw_clo hs).pot h0⟩
    · exact ⟨fun _ => 0, fun i j hi => absurd hi (by omega)⟩
  · rintro ⟨p, hp⟩
    cases e : fwV L n with
    | some s => exact ⟨s, rfl⟩
    | none => exact absurd hp (fw_none e p)
end Tf
end
section
/-! The ways themselves: rounds that never stand still. -/
namespace Tf
def Way (n i j : Nat) (l : List Nat) : Prop := Chn n l ∧ (∃ x, l = x ++ [j]) ∧ ∃ t, l = i :: t
def Cyc (n : Nat) (w : List Nat) : Prop := ∃ a r, w = a :: r ∧ Chn n (a :: (r ++ [a]))
theorem chn_join {n m : Nat} {t : List Nat} (h2 : Chn n (m :: t)) : ∀ x : List Nat, Chn n (x ++ [m]) → Chn n (x ++ m :: t)
  | [], _ => h2
  | [u], h => ⟨h.1, h.2.1, h2⟩
  | u :: v :: r, h => ⟨h.1, h.2.1, chn_join h2 (v :: r) h.2.2⟩
theorem Way.join {n i m j : Nat} {l1 l2 : List Nat} (h1 : Way n i m l1) (h2 : Way n m j l2) (hne : i ≠ m) : Way n i j (l1 ++ l2.tail) := by
  obtain ⟨c1, ⟨x, e1⟩, t1, f1⟩ := h1
  obtain ⟨c2, ⟨y, e2⟩, t2, f2⟩ := h2
  have e : l1 ++ l2.tail = x ++ m :: t2 := by rw [e1, f2, List.tail_cons, List.append_assoc]; rfl
  refine ⟨by rw [e]; exact chn_join (by rw [← f2]; exact c2) x (by rw [← e1]; exact c1), ⟨x ++ y, ?_⟩, t1 ++ l2.tail, by rw [f1]; rfl⟩
  rw [e, ← f2, e2, List.append_assoc]
theorem Way.len {n i m j : Nat} {l1 l2 : List Nat} (h2 : Way n m j l2) : (l1 ++ l2.tail).length + 1 = l1.length + l2.length := by
  obtain ⟨_, _, t2, f2⟩ := h2
  rw [f2, List.tail_cons, List.length_append, List.length_cons]; omega
theorem Way.round {n i m : Nat} {l1 l2 : List Nat} (h1 : Way n i m l1) (h2 : Way n m i l2) (hne : i ≠ m) : Cyc n (l1.dropLast ++ l2.dropLast) := by
  obtain ⟨c1, ⟨x, e1⟩, t1, f1⟩ := h1
  obtain ⟨c2, ⟨y, e2⟩, t2, f2⟩ := h2
  rw [e1, e2, List.dropLast_concat, List.dropLast_concat]
  cases x with
  | nil =>
    rw [e1] at f1
    injection f1 with f1
    exact absurd f1.symm hne
  | cons u x' =>
    rw [e1] at f1
    injection f1 with f1
    subst f1
    refine ⟨u, x' ++ y, rfl, ?_⟩
    have : u :: (x' ++ y ++ [u]) = (u :: x') ++ (m :: t2) := by rw [← f2, e2, List.append_assoc]; rfl
    rw [this]
    exact chn_join (by rw [← f2]; exact c2) (u :: x') (by rw [← e1]; exact c1)
theorem Cyc.cut {n : Nat} {x y z : List Nat} {a : Nat} (h : Cyc n (x ++ a :: (y ++ a :: z))) : Cyc n (a :: y) ∧ Cyc n (x ++ a :: z) := by
  obtain ⟨b, r, e, c⟩ := h
  have e1 : b :: (r ++ [b]) = x ++ a :: (y ++ a :: (z ++ [b])) := by
    have : b :: (r ++ [b]) = (b :: r) ++ [b] := rfl
    rw [this, ← e]; simp
  rw [e1] at c
  obtain ⟨c1, c2⟩ := Chn.cut x a y (z ++ [b]) c
  refine ⟨⟨a, y, rfl, c2⟩, ?_⟩
  cases x with
  | nil =>
    have hb : b = a := by injection e with e; exact e.symm
    subst hb
    exact ⟨b, z, rfl, c1⟩
  | cons u x' =>
    have hb : b = u := by injection e with e; exact e.symm
    subst hb
    refine ⟨b, x' ++ a :: z, rfl, ?_⟩
    have : b :: (x' ++ a :: z ++ [b]) = b :: x' ++ a :: (z ++ [b]) := by simp
    rw [this]; exact c1
theorem chn_at {n : Nat} : ∀ {l : List Nat} {i : Nat}, Chn n l → i + 1 < l.length → l.getD i 0 < n ∧ l.getD i 0 ≠ l.getD (i + 1) 0
  | [], i, _, h => by simp at h
  | [u], i, _, h => by simp at h
  | u :: v :: r, 0, c, _ => ⟨c.1, c.2.1⟩
  | u :: v :: r, i + 1, c, h => by
    have := chn_at (l := v :: r) (i := i) c.2.2 (by simpa using h)
    simpa using this
theorem Cyc.key {n : Nat} {w : List Nat} (h : Cyc n w) {i : Nat} (hi : i < w.length) : (w.getD i 0, w.getD ((i + 1) % w.length) 0) ∈ liesV n := by
  obtain ⟨a, r, e, c⟩ := h
  have hm : ∀ x ∈ w, x < n := fun x hx => Chn.mem c x (by rw [e] at hx; rcases List.mem_cons.mp hx with h | h; exact h ▸ List.mem_cons_self; exact List.mem_cons_of_mem _ (List.mem_append_left _ h))
  have mem : ∀ k, k < w.length → w.getD k 0 < n := fun k hk => hm _ (by rw [List.getD_eq_getElem?_getD, List.getElem?_eq_getElem hk]; exact List.getElem_mem hk)
  have hl : a :: (r ++ [a]) = w ++ [a] := by rw [e]; rfl
  rw [hl] at c
  have k1 := chn_at c (i := i) (by rw [List.length_append, List.length_singleton]; omega)
  have g1 : (w ++ [a]).getD i 0 = w.getD i 0 := by
    rw [List.getD_eq_getElem?_getD, List.getElem?_append_left hi, ← List.getD_eq_getElem?_getD]
  rw [g1] at k1
  have hw : 0 < w.length := by omega
  refine mem_lies.mpr ⟨k1.1, mem _ (Nat.mod_lt _ hw), ?_⟩
  by_cases c2 : i + 1 < w.length
  · rw [Nat.mod_eq_of_lt c2]
    have g2 : (w ++ [a]).getD (i + 1) 0 = w.getD (i + 1) 0 := by
      rw [List.getD_eq_getElem?_getD, List.getElem?_append_left c2, ← List.getD_eq_getElem?_getD]
    rw [g2] at k1
    exact k1.2
  · have ei : i + 1 = w.length := by omega
    rw [ei, Nat.mod_self]
    have g2 : (w ++ [a]).getD (i + 1) 0 = a := by
      rw [ei, List.getD_eq_getElem?_getD, List.getElem?_append_right (Nat.le_refl _), Nat.sub_self]; rfl
    have g3 : w.getD 0 0 = a := by rw [e]; rfl
    rw [g2] at k1
    show w.getD i 0 ≠ w.getD 0 0
    rw [g3]; exact k1.2
theorem Cyc.ne {n : Nat} {w : List Nat} (h : Cyc n w) : w ≠ [] := by
  obtain ⟨a, r, e, _⟩ := h
  rw [e]; exact fun z => nomatch z
structure WyI (n k : Nat) (W : Nat × Nat → List Nat) : Prop where
  dg : ∀ i, i < n → W (i, i) = [i]
  wy : ∀ i j, i < n → j < n → i ≠ j → Way n i j (W (i, j)) ∧ (W (i, j)).length ≤ 2 ^ k + 1
theorem fw0_W {L : Nat → Nat → Int} {n : Nat} : WyI n 0 (fw0 L).2 := by
  refine ⟨fun i _ => if_pos rfl, fun i j hi hj hne => ?_⟩
  have e : (fw0 L).2 (i, j) = [i, j] := if_neg hne
  rw [e]
  exact ⟨⟨⟨hi, hne, hj⟩, ⟨[i], rfl⟩, [j], rfl⟩, Nat.le_refl _⟩
theorem fwB_W {n k m : Nat} {s : FwSt} (h : WyI n k s.2) (hm : m < n) : WyI n (k + 1) (fwB n m s).2 := by
  have hp : 2 ^ (k + 1) = 2 ^ k + 2 ^ k := by rw [Nat.pow_succ]; omega
  have hp0 : 0 < 2 ^ k := Nat.two_pow_pos k
  refine ⟨fun i hi => ?_, fun i j hi hj hne => ?_⟩
  · unfold fwB
    rw [(fw_run (liesV n) s).2 (i, i), if_neg (fun z => (mem_lies.mp z.1).2.2 rfl)]
    exact h.dg i hi
  · unfold fwB
    rw [(fw_run (liesV n) s).2 (i, j)]
    by_cases c : (i, j) ∈ liesV n ∧ fwC m s.1 (i, j) = true
    · rw [if_pos c]
      have c' := fwC_iff.mp c.2
      obtain ⟨w1, l1⟩ := h.wy i m hi hm (fun z => c'.1 z.symm)
      obtain ⟨w2, l2⟩ := h.wy m j hm hj c'.2.1
      refine ⟨w1.join w2 (fun z => c'.1 z.symm), ?_⟩
      have := Way.len (i := i) (l1 := s.2 (i, m)) w2
      show (s.2 (i, m) ++ (s.2 (m, j)).tail).length ≤ _
      omega
    · rw [if_neg c]
      obtain ⟨w1, l1⟩ := h.wy i j hi hj hne
      exact ⟨w1, by omega⟩
end Tf
end
section
/-! Ways: turned, round_sum, simple. -/
namespace Tf
open PySem PySem.Spec PyProof.Rows L2 Ty
theorem first_at {α : Type} [DecidableEq α] : ∀ {l : List α} {z : α}, z ∈ l → ∃ j : Nat, l[j]? = some z ∧ ∀ m : Nat, m < j → l[m]? ≠ some z
  | x :: l, z, h => by
    by_cases e : x = z
    · exact ⟨0, by rw [e]; rfl, fun m hm => absurd hm (Nat.not_lt_zero _)⟩
    · obtain ⟨j, h1, h2⟩ := first_at ((List.mem_cons.mp h).resolve_left fun w => e w.symm)
      refine ⟨j + 1, by simpa using h1, fun m hm => ?_⟩
      cases m with
      | zero => simpa using e
      | succ m => simpa using h2 m (by omega)
/-- some tuple of numbers -/
def ringP : Pd := Some' (fun _ : List Nat => True) fun r => Tp (r.map ni)
theorem ringP_ref {v : V} {G : Hp} (h : ringP.p v G) : v ≠ .non := by
  obtain ⟨r, _, a, xs, rfl, _⟩ := h
  exact fun h => nomatch h
abbrev yF (n : Nat) (L : Nat × Nat → Int) (a b : Addr) (rp : Pd) : List (Str × Pd) := [("kinds", ni n), ("losses", Dt (liesV n) fun p => IsI (L p)), ("sums", Is (.ref a)), ("ways", Is (.ref b)), ("ring", rp)]
structure YaF (mg : Str → Option Value) (K : PySem.W.Frag) (C : Addr) : Prop where
  glo : mg "Ways" = some (.ref C)
  cl : Cls K C
  naK : NoAttr K C "kinds"
  naL : NoAttr K C "losses"
  naS : NoAttr K C "sums"
  naW : NoAttr K C "ways"
  naR : NoAttr K C "ring"
section
variable {P : Program} {w : World} {K : PySem.W.Frag} {mg : Str → Option Value} {base : Heap} {f : Addr} {fd : FuncData} {cR cF cW cU cY : Addr}
abbrev NTu : List Str := ["ring", "at"]
theorem scTu : FnScope NTu ["ring"] (defScope (top 33)) := ⟨rfl, rfl, rfl, by decide +kernel, rfl, by decide +kernel, by decide +kernel⟩
abbrev sTu (r : List Nat) : Prop := r ≠ [] ∧ r.length ≤ 1000
abbrev lsP : Pd := Some' sTu fun r : List Nat => Ls (r.map ni)
abbrev spTu : Sp := SpD (fun _ : Unit => [lsP]) (fun _ => True) (fun _ => ringP)
theorem body_tu (b : Fb mg) : BodyOk P w K mg base NTu "turned" (defScope (top 33)) (defBody (top 33)) 0 (padG NTu ([lsP].map .is)) ringP none := by
  intro f cdv Ar outer s H E fam
  have nd := scTu.nd
  refine ⟨none, ?_, fun _ h => nomatch h⟩
  refine b_open (k := 0) rfl fun r h => ?_
  have hl : 0 < (r.map fun k : Nat => (k : Int)).length := by rw [List.length_map]; exact List.length_pos_iff.mpr h.1
  obtain ⟨j, j1, j2⟩ := first_at (minI_mem hl).1
  have e0 : Ls (r.map ni) = Ls ((r.map fun k : Nat => (k : Int)).map IsI) := by rw [List.map_map]; rfl
  have v0 : ∀ {Gx : List Sl} {p : Pos}, Gx[0]? = some (.is (Ls (r.map ni))) → TyE (bodyX P w K mg base NTu "turned" (defScope (top 33)) f cdv Ar outer s H E) Gx (.Name "ring" p) (Ls ((r.map fun k : Nat => (k : Int)).map IsI)) Gx := fun hx => TyE.eq (vr 0 (h := hx)) e0
  refine b_st 1 (fun _ => nd) (P := IsI (j : Nat)) (e_index j (fun _ => rfl) (v0 rfl) (e_min (fun _ => rfl) (fun _ => b.min) (fun _ => rfl) (v0 rfl) hl (minI_eq hl)) j1 j2) ?_
  have hz : ((r.drop j ++ (r.take j ++ [])).map ni).length ≤ sizeLine := by
    have := h.2
    rw [sizeLine_eq, List.length_map, List.length_append, List.length_append, List.length_drop, List.length_take, List.length_nil]; omega
  refine b_ret (TyE.conv (e_tupSq (Ps := (r.drop j ++ (r.take j ++ [])).map ni) (fun _ => b.tuple) (fun _ => rfl) (e_lst (TyA.eq (a_star (fun _ => rfl) ((e_slL (fun _ => rfl) (vr 0) (o_som (vr 1)) o_non).conv fun _ _ h => Ls.sq h) (a_star (fun _ => rfl) ((e_slL (fun _ => rfl) (vr 0) o_non (o_som (vr 1))).conv fun _ _ h => Ls.sq h) a_nil)) ?_) hz) fun _ _ h => Ls.sq h) fun v G hp => ⟨_, trivial, hp⟩) OwnAt.none
  rw [cutL_map, cutL_map, cut_from, cut_to, List.map_append, List.map_append]
  rfl
/-! ### round_sum, simple -/
section
variable {ι : Type} {X : ι → Cx} {Ga : List Sl} {x : Str} {pos p : Pos} {n i : Nat} {L : Nat × Nat → Int} {a b : Addr} {rp : Pd}
theorem e_yk (y : YaF mg K cY) (hK : ∀ l, (X l).K = K) (hv : ∀ j, PE (X j) (.Name x p) (tVar i)) (hi : Ga[i]? = some (.own (Ob cY (yF n L a b rp)))) (hb : ∀ l, attributeBase (.Name x p) "kinds" (X l).env (eval (.Name x p) (X l).env) = eval (.Name x p) (X l).env := by intro l; rfl) : TyE X Ga (.Attribute (.Name x p) "kinds" pos) (ni n) Ga := e_fldO (k := 0) hK y.cl y.naK hv hi .own rfl ⟨rfl, rfl⟩ hb
theorem e_yl (y : YaF mg K cY) (hK : ∀ l, (X l).K = K) (hv : ∀ j, PE (X j) (.Name x p) (tVar i)) (hi : Ga[i]? = some (.own (Ob cY (yF n L a b rp)))) (hb : ∀ l, attributeBase (.Name x p) "losses" (X l).env (eval (.Name x p) (X l).env) = eval (.Name x p) (X l).env := by intro l; rfl) : TyE X Ga (.Attribute (.Name x p) "losses" pos) (Dt (liesV n) fun p => IsI (L p)) Ga := e_fldO (k := 1) hK y.cl y.naL hv hi .own rfl ⟨rfl, rfl⟩ hb
theorem e_ys (y : YaF mg K cY) (hK : ∀ l, (X l).K = K) (hv : ∀ j, PE (X j) (.Name x p) (tVar i)) (hi : Ga[i]? = some (.own (Ob cY (yF n L a b rp)))) (hb : ∀ l, attributeBase (.Name x p) "sums" (X l).env (eval (.Name x p) (X l).env) = eval (.Name x p) (X l).env := by intro l; rfl) : TyE X Ga (.Attribute (.Name x p) "sums" pos) (Is (.ref a)) Ga := e_fldO (k := 2) hK y.cl y.naS hv hi .own rfl ⟨rfl, rfl⟩ hb
theorem e_yw (y : YaF mg K cY) (hK : ∀ l, (X l).K = K) (hv : ∀ j, PE (X j) (.Name x p) (tVar i)) (hi : Ga[i]? = some (.own (Ob cY (yF n L a b rp)))) (hb : ∀ l, attributeBase (.Name x p) "ways" (X l).env (eval (.Name x p) (X l).env) = eval (.Name x p) (X l).env := by intro l; rfl) : TyE X Ga (.Attribute (.Name x p) "ways" pos) (Is (.ref b)) Ga := e_fldO (k := 3) hK y.cl y.naW hv hi .own rfl ⟨rfl, rfl⟩ hb
end
structure dY where
  n : Nat
  L : Nat × Nat → Int
  a : Addr
  b : Addr
  walk : List Nat
abbrev mY (cY : Addr) (d : dY) : Mo := Ob cY (yF d.n d.L d.a d.b (Is .non))
abbrev sY (N : Nat) (d : dY) : Prop := Cyc d.n d.walk ∧ d.walk.length ≤ N
def rndV (L : Nat × Nat → Int) (w : List Nat) : Int := (w.zipIdx.map fun z => L (z.1, w.getD ((z.2 + 1) % w.length) 0)).sum
abbrev spYr (cY : Addr) : Sp := SpO (fun d : dY => [Ls (d.walk.map ni)]) (sY 64) (fun d => IsI (rndV d.L d.walk)) (mY cY) (mY cY)
abbrev spYs (cY : Addr) (N : Nat) : Sp := SpO (fun d : dY => [Ls (d.walk.map ni)]) (sY N) (fun _ => lsP) (mY cY) (mY cY)
abbrev NYr : List Str := ["self", "walk", "at", "kind"]
theorem scYr : FnScope NYr ["self", "walk"] (defScope (inClass (top 32) 2)) := ⟨rfl, rfl, rfl, by decide +kernel, rfl, by decide +kernel, by decide +kernel⟩
theorem body_yr (bf : Fb mg) (y : YaF mg K cY) (d : dY) (h : sY 64 d) : BodyOk P w K mg base NYr "Ways.round_sum" (defScope (inClass (top 32) 2)) (defBody (inClass (top 32) 2)) 0 (padG NYr (.own (mY cY d) :: [Ls (d.walk.map ni)].map .is)) (IsI (rndV d.L d.walk)) (some (mY cY d)) := by
  intro f cdv Ar outer s H E fam
  have nd := scYr.nd
  have hw : 0 < d.walk.length := List.length_pos_iff.mpr h.1.ne
  have hz : d.walk.length ≤ sizeLine := by have := h.2; rw [sizeLine_eq]; omega
  refine ⟨none, ?_, fun _ h => nomatch h⟩
  refine b_ret (Gb := [.own (mY cY d), .is (Ls (d.walk.map ni)), .any, .any]) (e_sum (ns := d.walk.zipIdx.map fun z => d.L (z.1, d.walk.getD ((z.2 + 1) % d.walk.length) 0)) (fun _ => rfl) (fun _ => bf.sum) (fun _ => rfl) (TyE.eq (e_lcP (ds := d.walk.zipIdx) (P1 := fun z => IsI (z.2 : Nat)) (P2 := fun z => ni z.1) (f := fun z => IsI (d.L (z.1, d.walk.getD ((z.2 + 1) % d.walk.length) 0))) 2 3 (by decide) (fun _ => rfl) (fun _ => nd) (fun _ => rfl)
    (i_enL (fun _ => rfl) (fun _ => bf.enum) (vr 1)) (fun z hz => ?_) (by rw [List.length_zipIdx]; exact hz) (fun i M h => ?_) (fun z => g_pr 2 3 (fun _ => rfl) (fun _ => rfl) (fun _ => nd))) (by rw [List.map_map]; rfl))) (OwnAt.at 0 rfl)
  · have hz' := List.mem_zipIdx_iff_getElem?.mp hz
    have hi : z.2 < d.walk.length := (List.getElem?_eq_some_iff.mp hz').1
    have ez : z.1 = d.walk.getD z.2 0 := by rw [List.getD_eq_getElem?_getD, hz']; rfl
    have hm : (z.1, d.walk.getD ((z.2 + 1) % d.walk.length) 0) ∈ liesV d.n := by rw [ez]; exact h.1.key hi
    have e1 : (((z.2 : Nat) : Int) + 1) % ((d.walk.map ni).length : Nat) = (((z.2 + 1) % d.walk.length : Nat) : Int) := by rw [List.length_map, Int.natCast_emod, Int.natCast_add]; rfl
    refine e_dget (f := fun p => IsI (d.L p)) (fam.blk) (z.1, d.walk.getD ((z.2 + 1) % d.walk.length) 0) (e_yl y (fun _ => rfl) (fun _ => pv 0) rfl) (e_tup (a_2 (vr 3) (e_ixL (fun _ => rfl) (vr 1) (TyE.eq (e_mod (e_add (vr 2) e_int) (e_lenL (fun _ => bf.len) (fun _ => rfl) (vr 1)) (by rw [List.length_map]; omega)) (by rw [e1])) (at_map (Nat.mod_lt _ hw)))) len2) hm
  · match i, h with
    | 0, _ => exact ⟨by decide, by decide⟩
    | 1, h => cases h
    | 2, h => cases h
    | 3, h => cases h
    | i + 4, h => cases h
end
end Tf
end
section
/-! Ways: simple. -/
namespace Tf
open PySem PySem.Spec PyProof.Rows L2 Ty
theorem split_at {w : List Nat} {k t : Nat} (h1 : w[t]? = some k) (h2 : k ∈ w.take t) : ∃ j, j < t ∧ w[j]? = some k ∧ (∀ m, m < j → w[m]? ≠ some k) ∧ w = w.take j ++ k :: ((w.drop (j + 1)).take (t - j - 1) ++ k :: w.drop (t + 1)) ∧ (w.drop j).take (t - j) = k :: (w.drop (j + 1)).take (t - j - 1) ∧ w.drop t = k :: w.drop (t + 1) := by
  have ht : t < w.length := (List.getElem?_eq_some_iff.mp h1).1
  obtain ⟨j, j1, j2⟩ := first_at (List.mem_of_mem_take h2)
  have hj : j < w.length := (List.getElem?_eq_some_iff.mp j1).1
  have hjt : j < t := by
    refine Nat.lt_of_not_le fun hle => ?_
    obtain ⟨m, hm⟩ := List.getElem?_of_mem h2
    have hm2 : m < t := by
      have := (List.getElem?_eq_some_iff.mp hm).1
      rw [List.length_take] at this
      omega
    rw [List.getElem?_take_of_lt hm2] at hm
    exact j2 m (by omega) hm
  have e1 : w.drop j = k :: w.drop (j + 1) := by
    rw [List.drop_eq_getElem_cons hj]
    congr 1
    exact (List.getElem?_eq_some_iff.mp j1).2
  have e2 : w.drop t = k :: w.drop (t + 1) := by
    rw [List.drop_eq_getElem_cons ht]
    congr 1
    exact (List.getElem?_eq_some_iff.mp h1).2
  have e3 : (w.drop (j + 1)).drop (t - j - 1) = w.drop t := by
    rw [List.drop_drop]
    congr 1
    omega
  refine ⟨j, hjt, j1, j2, ?_, ?_, e2⟩
  · rw [← e2, ← e3, List.take_append_drop, ← e1, List.take_append_drop]
  · have e4 : ∀ m, t - j = m + 1 → (k :: w.drop (j + 1)).take (t - j) = k :: (w.drop (j + 1)).take (t - j - 1) := fun m hm => by rw [hm, List.take_succ_cons, Nat.add_sub_cancel]
    rw [e1]
    exact e4 (t - j - 1) (by omega)
section
variable {P : Program} {w : World} {K : PySem.W.Frag} {mg : Str → Option Value} {base : Heap} {f : Addr} {fd : FuncData} {cR cF cW cU cY : Addr}
abbrev NYs : List Str := ["self", "walk", "at", "kind", "begin", "inner", "outer"]
theorem scYs : FnScope NYs ["self", "walk"] (defScope (inClass (top 32) 3)) := ⟨rfl, rfl, rfl, by decide +kernel, rfl, by decide +kernel, by decide +kernel⟩
abbrev rYs : Pd := lsP
theorem body_ys (bf : Fb mg) (RO : Mf P w K mg base 1 cY "round_sum" (spYr cY)) {k N : Nat} (SI : Mf P w K mg base k cY "simple" (spYs cY N)) (hk : 1 ≤ k) (hN : N < 64) (d : dY) (h : sY (N + 1) d) : BodyOk P w K mg base NYs "Ways.simple" (defScope (inClass (top 32) 3)) (defBody (inClass (top 32) 3)) k (padG NYs (.own (mY cY d) :: [Ls (d.walk.map ni)].map .is)) rYs (some (mY cY d)) := by
  intro f cdv Ar outer s H E fam
  have nd := scYs.nd
  have hw : 0 < d.walk.length := List.length_pos_iff.mpr h.1.ne
  have hl : d.walk.length ≤ 64 := by have := h.2; omega
  refine ⟨none, ?_, fun _ h => nomatch h⟩
  refine b_forF d.walk.zipIdx (fun z => Tp [IsI (z.2 : Nat), ni z.1]) (fun _ : Unit => [.own (mY cY d), .is (Ls (d.walk.map ni)), .any, .any, .any, .any, .any]) (fun _ z => [.own (mY cY d), .is (Ls (d.walk.map ni)), .is (IsI (z.2 : Nat)), .is (ni z.1), .any, .any, .any]) (fun _ _ => ()) () (fun _ _ => True) trivial (fun _ => rfl) (fun _ => rfl)
    (i_enL (fun _ => rfl) (fun _ => bf.enum) (vr 1)) (fun _ z _ => g_pr 2 3 (fun _ => rfl) (fun _ => rfl) (fun _ => nd)) (fun _ _ z hz _ _ => ?_) (fun _ _ _ _ _ _ => trivial) fun _ => b_ret ((vr 1).conv fun v G hp => ⟨d.walk, ⟨h.1.ne, by omega⟩, hp⟩) (OwnAt.at 0 rfl)
  have hz' := List.mem_zipIdx_iff_getElem?.mp hz
  have hi : z.2 < d.walk.length := (List.getElem?_eq_some_iff.mp hz').1
  have e0 : ∀ r : List Nat, Ls (r.map ni) = Ls ((r.map fun k : Nat => (k : Int)).map IsI) := fun r => by rw [List.map_map]; rfl
  refine b_if (Gc := [.own (mY cY d), .is (Ls (d.walk.map ni)), .any, .any, .any, .any, .any]) (t_in (ns := (d.walk.take z.2).map fun k : Nat => (k : Int)) (fun _ => rfl) (vr 3) (TyE.conv (TyE.eq (e_slL (fun _ => rfl) (vr 1) o_non (o_som (vr 2))) (by rw [cutL_map, cut_to, e0])) fun _ _ h => Ls.sq h)) (fun hb => ?_) (fun _ => b_nil (.cons .rfl (.cons .rfl (.cons .any (.cons .any (.cons .any (.cons .any (.cons .any .nil)))))))) (b_nil (GaLe.refl _))
  have hm : z.1 ∈ d.walk.take z.2 := by
    have := of_decide_eq_true hb
    rw [List.mem_map] at this
    obtain ⟨u, hu, e⟩ := this
    have : u = z.1 := by omega
    rwa [this] at hu
  obtain ⟨j, hjt, j1, j2, e1, e2, e3⟩ := split_at hz' hm
  have cy := h.1
  rw [e1] at cy
  obtain ⟨c1, c2⟩ := cy.cut
  have l1 : (z.1 :: (d.walk.drop (j + 1)).take (z.2 - j - 1)).length = z.2 - j := by
    rw [List.length_cons, List.length_take, List.length_drop]; omega
  have l2 : (d.walk.take j ++ z.1 :: d.walk.drop (z.2 + 1)).length = j + (d.walk.length - z.2) := by
    rw [List.length_append, List.length_cons, List.length_drop, List.length_take]; omega
  generalize hin : z.1 :: (d.walk.drop (j + 1)).take (z.2 - j - 1) = wi at *
  generalize hou : d.walk.take j ++ z.1 :: d.walk.drop (z.2 + 1) = wo at *
  refine b_st 4 (fun _ => nd) (P := IsI (j : Nat)) (e_index (ns := d.walk.map fun k : Nat => (k : Int)) j (fun _ => rfl) (TyE.eq (vr 1) (e0 _)) (vr 3) (by rw [List.getElem?_map, j1]; rfl) (fun m hm' hx => ?_)) ?_
  · rw [List.getElem?_map] at hx
    cases c : d.walk[m]? with
    | none => rw [c] at hx; cases hx
    | some u =>
      rw [c] at hx
      have : ((u : Nat) : Int) = (z.1 : Nat) := by injection hx
      exact j2 m hm' (by rw [c]; congr 1; omega)
  · refine b_par (P1 := Ls (wi.map ni)) (P2 := Ls (wo.map ni)) (fun l => ps_par (i := 5) (j := 6) rfl nd rfl rfl (by decide) rfl rfl (uA_pa l) (by rfl)) (a_2 (TyE.eq (e_slL (fun _ => rfl) (vr 1) (o_som (vr 4)) (o_som (vr 2))) (by rw [cutL_map, cut_both _ _ _ (by omega), e2]))
      (TyE.eq (e_lst (TyA.eq (a_star (fun _ => rfl) ((e_slL (fun _ => rfl) (vr 1) o_non (o_som (vr 4))).conv fun _ _ h => Ls.sq h) (a_star (fun _ => rfl) ((e_slL (fun _ => rfl) (vr 1) (o_som (vr 2)) o_non).conv fun _ _ h => Ls.sq h) a_nil)) (show _ = wo.map ni from ?_)) (by rw [List.length_map, sizeLine_eq]; omega)) rfl)) ?_
    · rw [cutL_map, cutL_map, cut_to, cut_from, ← hou, e3, List.map_append, List.append_nil]
    · let di : dY := ⟨d.n, d.L, d.a, d.b, wi⟩
      have hdi : sY 64 di := ⟨c1, by show wi.length ≤ 64; omega⟩
      have hw3 : wi.length ≤ N ∧ wo.length ≤ N := ⟨by have := h.2; omega, by have := h.2; omega⟩
      let wx : List Nat := if rndV d.L wi < 0 then wi else wo
      have hx : sY N ⟨d.n, d.L, d.a, d.b, wx⟩ := by
        show Cyc d.n (if rndV d.L wi < 0 then wi else wo) ∧ (if rndV d.L wi < 0 then wi else wo).length ≤ N
        split
        · exact ⟨c1, hw3.1⟩
        · exact ⟨c2, hw3.2⟩
      refine b_ret (e_methO fam SI (⟨d.n, d.L, d.a, d.b, wx⟩ : dY) (fun _ => pv 0) rfl rfl (a_1 (e_if (t_lt (e_methO fam RO di (fun _ => pv 0) rfl rfl (a_1 (vr 5)) rfl hdi hk) e_int) (fun hb => TyE.eq (vr 5) ?_) (fun hb => TyE.eq (vr 6) ?_))) rfl hx (Nat.le_refl k)) (OwnAt.at 0 rfl)
      · have : wx = wi := if_pos (of_decide_eq_true hb)
        rw [this]
      · have : wx = wo := if_neg (of_decide_eq_false hb)
        rw [this]
end
end Tf
end
section
/-! Ways: bend. -/
namespace Tf
open PySem PySem.Spec PyProof.Rows L2 Ty
def kys (n : Nat) : List (Nat × Nat) := liesV n ++ (List.range n).map fun k => (k, k)
theorem mem_kys {n : Nat} {p : Nat × Nat} : p ∈ kys n ↔ p.1 < n ∧ p.2 < n := by
  unfold kys
  rw [List.mem_append, mem_lies, List.mem_map]
  constructor
  · rintro (⟨h1, h2, _⟩ | ⟨k, hk, rfl⟩)
    · exact ⟨h1, h2⟩
    · exact ⟨List.mem_range.mp hk, List.mem_range.mp hk⟩
  · rintro ⟨h1, h2⟩
    by_cases e : p.1 = p.2
    · exact .inr ⟨p.1, List.mem_range.mpr h1, Prod.ext rfl e⟩
    · exact .inl ⟨h1, h2, e⟩
theorem kys_len {n : Nat} (h : n ≤ 6) : (kys n).length ≤ 42 := by
  unfold kys
  have := lies_len h
  rw [List.length_append, List.length_map, List.length_range]; omega
abbrev dsP (D : Nat × Nat → Int) : Nat × Nat → Pd := fun x => IsI (D x)
abbrev dwP (W : Nat × Nat → List Nat) : Nat × Nat → Pd := fun x => Tp ((W x).map ni)
theorem set_ds {D : Nat × Nat → Int} {p : Nat × Nat} {v : Int} : setF (dsP D) p (IsI v) = dsP fun x => if x = p then v else D x := by
  funext x
  unfold setF
  show (if x = p then IsI v else IsI (D x)) = IsI (if x = p then v else D x)
  split <;> rfl
theorem set_dw {W : Nat × Nat → List Nat} {p : Nat × Nat} {v : List Nat} : setF (dwP W) p (Tp (v.map ni)) = dwP fun x => if x = p then v else W x := by
  funext x
  unfold setF
  show (if x = p then Tp (v.map ni) else Tp ((W x).map ni)) = Tp ((if x = p then v else W x).map ni)
  split <;> rfl
structure dB where
  n : Nat
  m : Nat
  L : Nat × Nat → Int
  st : FwSt
  a : Addr
  b : Addr
structure sB (d : dB) : Prop where
  n6 : d.n ≤ 6
  mn : d.m < d.n
  wy : WyI d.n d.m d.st.2
abbrev rB (d : dB) : Pd := if fwN d.n d.m d.st.1 = true then ringP else Is .non
section
variable {P : Program} {w : World} {K : PySem.W.Frag} {mg : Str → Option Value} {base : Heap} {f : Addr} {fd : FuncData} {cR cF cW cU cY : Addr}
abbrev NYb : List Str := ["self", "middle", "first", "there", "back", "last", "over"]
theorem scYb : FnScope NYb ["self", "middle"] (defScope (inClass (top 32) 1)) := ⟨rfl, rfl, rfl, by decide +kernel, rfl, by decide +kernel, by decide +kernel⟩
abbrev gB0 (cY : Addr) (d : dB) : List Sl := [.own (Ob cY (yF d.n d.L d.a d.b (Is .non))), .is (ni d.m), .any, .any, .any, .gh d.a (Dc (kys d.n) (dsP d.st.1)), .gh d.b (Dc (kys d.n) (dwP d.st.2))]
abbrev gB1 (cY : Addr) (d : dB) (s : FwSt) : List Sl := [.own (Ob cY (yF d.n d.L d.a d.b (Is .non))), .is (ni d.m), .any, .gh d.a (Dc (kys d.n) (dsP s.1)), .gh d.b (Dc (kys d.n) (dwP s.2)), .any, .any]
abbrev gB2 (cY : Addr) (d : dB) : List Sl := [.own (Ob cY (yF d.n d.L d.a d.b (Is .non))), .is (ni d.m), al (!fwN d.n d.m d.st.1), .gh d.a (Dc (kys d.n) (dsP (fwB d.n d.m d.st).1)), .gh d.b (Dc (kys d.n) (dwP (fwB d.n d.m d.st).2)), .any, .any]
abbrev rN (d : dB) : Pd := if fwN d.n d.m d.st.1 = true then Is .non else PdF
theorem body_yb (bf : Fb mg) (y : YaF mg K cY) (TU : Gf P w K mg base 1 "turned" spTu) (LI : Gf P w K mg base 1 "lies" spLies) (SI : Mf P w K mg base 65 cY "simple" (spYs cY 64)) (d : dB) (h : sB d) (f : Addr) (cdv : Value) (Ar : Around) (outer : List Env) (s : Shared) (H : Hp) (E : XK)
    (fam : Fam (bodyX P w K mg base NYb "Ways.bend" (defScope (inClass (top 32) 1)) f cdv Ar outer s H E) P w K mg base 65) :
    TyB (bodyX P w K mg base NYb "Ways.bend" (defScope (inClass (top 32) 1)) f cdv Ar outer s H E) (gB0 cY d) (defBody (inClass (top 32) 1)) (some (gB2 cY d)) (rN d) (some (Ob cY (yF d.n d.L d.a d.b (rB d)))) := by
  have nd := scYb.nd
  have hz : (kys d.n).length < sizeLine := by have := kys_len h.n6; rw [sizeLine_eq]; omega
  have hp : 2 ^ d.m ≤ 32 := Nat.le_trans (Nat.pow_le_pow_right (by decide) (show d.m ≤ 5 by have := h.n6; have := h.mn; omega)) (Nat.le_refl _)
  have wl : ∀ i j, i < d.n → j < d.n → (d.st.2 (i, j)).length ≤ 33 := fun i j hi hj => by
    by_cases e : i = j
    · subst e; rw [h.wy.dg i hi]; show 1 ≤ 33; decide
    · have := (h.wy.wy i j hi hj e).2; omega
  have hdec : ∀ i j : Nat, decide (((i : Nat) : Int) = ((j : Nat) : Int)) = decide (i = j) := fun i j => by
    by_cases e : i = j
    · rw [decide_eq_true e, decide_eq_true (by omega)]
    · rw [decide_eq_false e, decide_eq_false (by omega)]
  let cnd : Nat → Bool := fun i => !decide (i = d.m) && decide (d.st.1 (i, d.m) + d.st.1 (d.m, i) < 0)
  refine b_forF (List.range d.n) ni (fun z : Bool => [.own (Ob cY (yF d.n d.L d.a d.b (Is .non))), .is (ni d.m), .any, .any, al z, .gh d.a (Dc (kys d.n) (dsP d.st.1)), .gh d.b (Dc (kys d.n) (dwP d.st.2))]) (fun z i => [.own (Ob cY (yF d.n d.L d.a d.b (Is .non))), .is (ni d.m), .is (ni i), .any, al z, .gh d.a (Dc (kys d.n) (dsP d.st.1)), .gh d.b (Dc (kys d.n) (dwP d.st.2))])
    (fun z i => z && !cnd i) true (fun pre z => z = !pre.any cnd) rfl (fun _ => rfl) (fun _ => rfl)
    (i_rng (fun _ => bf.range) (e_yk y (fun _ => rfl) (fun _ => pv 0) rfl) (by have := h.n6; omega)) (fun z i _ => g_nm 2 (fun _ => nd)) (fun pre z i hi hpre _ => ?_) (fun pre z i hi hpre hpo => ?_) fun hall => ?_
  · cases z with
    | false => exact b_absurd (k := 4) rfl
    | true =>
      have hin := List.mem_range.mp hi
      refine b_par (P1 := prP (i, d.m)) (P2 := prP (d.m, i)) (fun l => ps_par (i := 3) (j := 4) rfl nd rfl rfl (by decide) rfl rfl (uA_pa l) (by rfl)) (a_2 (e_tup (a_2 (vr 2) (vr 1)) len2) (e_tup (a_2 (vr 1) (vr 2)) len2)) ?_
      refine b_if (b := cnd i) (Gc := [.own (Ob cY (yF d.n d.L d.a d.b (Is .non))), .is (ni d.m), .any, .any, al (true && !cnd i), .gh d.a (Dc (kys d.n) (dsP d.st.1)), .gh d.b (Dc (kys d.n) (dwP d.st.2))]) (TyT.eq (t_w (w_and (t_ne (vr 2) (vr 1)) (fun _ => w_and1 (t_lt (e_add (e_dgetG (f := dsP d.st.1) fam (i, d.m) 5 (e_ys y (fun _ => rfl) (fun _ => pv 0) rfl) (vr 3) rfl (mem_kys.mpr ⟨hin, h.mn⟩)) (e_dgetG (f := dsP d.st.1) fam (d.m, i) 5 (e_ys y (fun _ => rfl) (fun _ => pv 0) rfl) (vr 4) rfl (mem_kys.mpr ⟨h.mn, hin⟩))) e_int)) (fun _ => GaLe.refl _))) (by rw [hdec])) (fun hb => ?_) (fun hb => b_nil ?_) (b_nil (GaLe.refl _))
      · have hc : ¬ i = d.m ∧ d.st.1 (i, d.m) + d.st.1 (d.m, i) < 0 := by simpa [cnd] using hb
        have hN : fwN d.n d.m d.st.1 = true := by
          unfold fwN
          rw [List.any_eq_true]
          exact ⟨i, hi, hb⟩
        have hR : rB d = ringP := if_pos hN
        obtain ⟨w1, k1⟩ := h.wy.wy i d.m hin h.mn hc.1
        obtain ⟨w2, k2⟩ := h.wy.wy d.m i h.mn hin (fun z => hc.1 z.symm)
        have cy := w1.round w2 hc.1
        have hl1 : (d.st.2 (i, d.m)).dropLast.length ≤ 32 := by rw [List.length_dropLast]; omega
        have hl2 : (d.st.2 (d.m, i)).dropLast.length ≤ 32 := by rw [List.length_dropLast]; omega
        generalize hwk : (d.st.2 (i, d.m)).dropLast ++ (d.st.2 (d.m, i)).dropLast = wk at cy
        have hlk : wk.length ≤ 64 := by rw [← hwk, List.length_append]; omega
        refine b_fldR (k := 4) (P := ringP) (Gb := [.own (Ob cY (yF d.n d.L d.a d.b (Is .non))), .is (ni d.m), .is (ni i), .is (prP (i, d.m)), .is (prP (d.m, i)), .gh d.a (Dc (kys d.n) (dsP d.st.1)), .gh d.b (Dc (kys d.n) (dwP d.st.2))]) (fun _ => rfl) y.cl y.naR (fun _ => pv 0) (e_gf fam TU () (fun _ => rfl) (a_1 (e_methO fam SI (⟨d.n, d.L, d.a, d.b, wk⟩ : dY) (fun _ => pv 0) rfl rfl (a_1 (TyE.eq (e_lst (TyA.eq (a_star (fun _ => rfl) (TyE.conv (e_slT (fun _ => rfl) (e_dgetG (f := dwP d.st.2) fam (i, d.m) 6 (e_yw y (fun _ => rfl) (fun _ => pv 0) rfl) (vr 3) rfl (mem_kys.mpr ⟨hin, h.mn⟩)) o_non (o_som (e_neg e_int))) fun _ _ h => Tp.sq h)
          (a_star (fun _ => rfl) (TyE.conv (e_slT (fun _ => rfl) (e_dgetG (f := dwP d.st.2) fam (d.m, i) 6 (e_yw y (fun _ => rfl) (fun _ => pv 0) rfl) (vr 4) rfl (mem_kys.mpr ⟨h.mn, hin⟩)) o_non (o_som (e_neg e_int))) fun _ _ h => Tp.sq h) a_nil)) (show _ = wk.map ni from ?_)) (by rw [List.length_map, sizeLine_eq]; omega)) rfl)) rfl ⟨cy, hlk⟩)) trivial) rfl .own rfl ⟨rfl, rfl⟩ (show 5 < 1000 by decide) ?_
        · rw [cutL_map, cutL_map]
          show ((cutL (d.st.2 (i, d.m)) none (some (-1))).map ni ++ ((cutL (d.st.2 (d.m, i)) none (some (-1))).map ni ++ [])) = _
          rw [cut_but, cut_but, ← hwk, List.map_append, List.append_nil]
        · rw [hR]
          have hR2 : rN d = Is .non := if_pos hN
          rw [hR2]
          exact b_retN (OwnAt.at 0 rfl) (fun _ => rfl)
      · rw [hb]
        exact .cons .rfl (.cons .rfl (.cons .any (.cons .any (.cons .any (.cons .rfl (.cons .rfl .nil))))))
  · show (z && !cnd i) = !(pre ++ [i]).any cnd
    rw [hpre, List.any_append, List.any_cons, List.any_nil, Bool.or_false, Bool.not_or]
  · generalize (List.range d.n).foldl (fun z i => z && !cnd i) true = z at hall ⊢
    cases hN : fwN d.n d.m d.st.1 with
    | true =>
      have : z = false := by rw [hall]; unfold fwN at hN; show (!(List.range d.n).any cnd) = false; rw [hN]; rfl
      subst this
      exact b_absurd (k := 4) rfl
    | false =>
      refine TyB.weak (Ga := [.own (Ob cY (yF d.n d.L d.a d.b (Is .non))), .is (ni d.m), .any, .any, .any, .gh d.a (Dc (kys d.n) (dsP d.st.1)), .gh d.b (Dc (kys d.n) (dwP d.st.2))]) ?_ (.cons .rfl (.cons .rfl (.cons .rfl (.cons .rfl (.cons .any (.cons .rfl (.cons .rfl .nil)))))))
      refine b_moveG (g := 5) (j := 3) rfl (b_moveG (g := 6) (j := 4) rfl ?_)
      refine b_forF (liesV d.n) pairP (fun s : FwSt => gB1 cY d s) (fun s p => [.own (Ob cY (yF d.n d.L d.a d.b (Is .non))), .is (ni d.m), .is (ni p.1), .gh d.a (Dc (kys d.n) (dsP s.1)), .gh d.b (Dc (kys d.n) (dwP s.2)), .is (ni p.2), .any]) (fwS d.m) d.st (fun _ s => ∀ i j, i < d.n → j < d.n → (i = d.m ∨ j = d.m) → s.2 (i, j) = d.st.2 (i, j)) (fun _ _ _ _ _ => rfl) (fun _ => rfl) (fun _ => rfl)
        (i_list (fun _ => rfl) (e_gf fam LI d.n (fun _ => rfl) (a_1 (e_yk y (fun _ => rfl) (fun _ => pv 0) rfl)) h.n6)) (fun s p _ => g_pr 2 5 (fun _ => rfl) (fun _ => rfl) (fun _ => nd)) (fun _ s p hp hs _ => ?_) (fun _ s p hp hs _ => ?_) fun _ => b_nil (by rw [show gB2 cY d = gB1 cY d (fwB d.n d.m d.st) by unfold gB2; rw [hN]; rfl]; exact GaLe.refl _)
      · have hp' := mem_lies.mp hp
        have m1 : (p.1, d.m) ∈ kys d.n := mem_kys.mpr ⟨hp'.1, h.mn⟩
        have m2 : (d.m, p.2) ∈ kys d.n := mem_kys.mpr ⟨h.mn, hp'.2.1⟩
        have m3 : p ∈ kys d.n := mem_kys.mpr ⟨hp'.1, hp'.2.1⟩
        refine b_st 6 (fun _ => nd) (P := IsI (overV d.m s.1 p)) (e_add (e_dgetG (f := dsP s.1) fam (p.1, d.m) 3 (e_ys y (fun _ => rfl) (fun _ => pv 0) rfl) (e_tup (a_2 (vr 2) (vr 1)) len2) rfl m1) (e_dgetG (f := dsP s.1) fam (d.m, p.2) 3 (e_ys y (fun _ => rfl) (fun _ => pv 0) rfl) (e_tup (a_2 (vr 1) (vr 5)) len2) rfl m2)) ?_
        refine b_if (b := fwC d.m s.1 p) (Gc := gB1 cY d (fwS d.m s p)) (TyT.eq (t_w (w_and (t_notIn (ns := [((p.1 : Nat) : Int), ((p.2 : Nat) : Int)]) (fun _ => rfl) (vr 1) (TyE.conv (e_tup (a_2 (vr 2) (vr 5)) len2) fun _ _ h => Tp.sq h)) (fun _ => w_and1 (t_lt (vr 6) (e_dgetG (f := dsP s.1) fam p 3 (e_ys y (fun _ => rfl) (fun _ => pv 0) rfl) (e_tup (a_2 (vr 2) (vr 5)) len2) rfl m3))) (fun _ => GaLe.refl _))) ?_) (fun hb => ?_) (fun hb => b_nil ?_) (b_nil (GaLe.refl _))
        · unfold fwC
          have : decide (((d.m : Nat) : Int) ∈ [((p.1 : Nat) : Int), ((p.2 : Nat) : Int)]) = (decide (d.m = p.1) || decide (d.m = p.2)) := by
            rw [← hdec, ← hdec]
            simp
          rw [this, Bool.not_or]
        · have hc := fwC_iff.mp hb
          have es : fwS d.m s p = (fun x => if x = p then overV d.m s.1 p else s.1 x, fun x => if x = p then wayV d.m s.2 p else s.2 x) := if_pos hb
          rw [es]
          have l1 : (s.2 (p.1, d.m)).length ≤ 33 := by rw [hs p.1 d.m hp'.1 h.mn (.inr rfl)]; exact wl _ _ hp'.1 h.mn
          have l2 : (s.2 (d.m, p.2)).length ≤ 33 := by rw [hs d.m p.2 h.mn hp'.2.1 (.inl rfl)]; exact wl _ _ h.mn hp'.2.1
          refine b_dputG (f := dsP s.1) fam p 3 (vr 6) (e_ys y (fun _ => rfl) (fun _ => pv 0) rfl) (e_tup (a_2 (vr 2) (vr 5)) len2) rfl m3 hz ?_
          rw [set_ds]
          refine b_dputG (f := dwP s.2) (P := Tp ((wayV d.m s.2 p).map ni)) fam p 4 (TyE.eq (e_tup (TyA.eq (a_star (fun _ => rfl) (TyE.conv (e_dgetG (f := dwP s.2) fam (p.1, d.m) 4 (e_yw y (fun _ => rfl) (fun _ => pv 0) rfl) (e_tup (a_2 (vr 2) (vr 1)) len2) rfl m1) fun _ _ h => Tp.sq h) (a_star (fun _ => rfl) (TyE.conv (e_slT (fun _ => rfl) (e_dgetG (f := dwP s.2) fam (d.m, p.2) 4 (e_yw y (fun _ => rfl) (fun _ => pv 0) rfl) (e_tup (a_2 (vr 1) (vr 5)) len2) rfl m2) (o_som e_int) o_non) fun _ _ h => Tp.sq h) a_nil)) (show _ = (wayV d.m s.2 p).map ni from ?_)) ?_) rfl) (e_yw y (fun _ => rfl) (fun _ => pv 0) rfl) (e_tup (a_2 (vr 2) (vr 5)) len2) rfl m3 hz ?_
          · rw [cutL_map]
            show (s.2 (p.1, d.m)).map ni ++ ((cutL (s.2 (d.m, p.2)) (some ((1 : Nat) : Int)) none).map ni ++ []) = _
            rw [cut_from, List.drop_one, List.append_nil]
            unfold wayV
            rw [List.map_append]
          · unfold wayV
            rw [List.length_map, List.length_append, List.length_tail, sizeLine_eq]; omega
          · rw [set_dw]
            exact b_nil (.cons .rfl (.cons .rfl (.cons .any (.cons .rfl (.cons .rfl (.cons .any (.cons .any .nil)))))))
        · have es : fwS d.m s p = s := if_neg (by rw [hb]; exact Bool.false_ne_true)
          rw [es]
          exact .cons .rfl (.cons .rfl (.cons .any (.cons .rfl (.cons .rfl (.cons .any (.cons .any .nil))))))
      · intro i j hi hj hij
        rw [← hs i j hi hj hij]
        unfold fwS
        split
        · rename_i hc
          have hc := fwC_iff.mp hc
          have : ¬ (i, j) = p := fun z => by
            rcases hij with e | e
            · exact hc.1 (by rw [← z, e])
            · exact hc.2.1 (by rw [← z, e])
          exact if_neg this
        · rfl
end
end Tf
end
section
/-! Ways: bend as a promise. -/
namespace Tf
open PySem PySem.Spec PyProof.Rows L2 Ty
open Evl (Ex)
def cut2 (a b : Addr) (H : Hp) : Hp := fun x => if x = a ∨ x = b then none else H x
theorem cut2_some {a b x : Addr} {H : Hp} {o : HO} (h : cut2 a b H x = some o) : H x = some o ∧ x ≠ a ∧ x ≠ b := by
  unfold cut2 at h
  by_cases c : x = a ∨ x = b
  · rw [if_pos c] at h; cases h
  · rw [if_neg c] at h; exact ⟨h, fun z => c (.inl z), fun z => c (.inr z)⟩
theorem cut2_ne {a b x : Addr} {H : Hp} (h1 : x ≠ a) (h2 : x ≠ b) : cut2 a b H x = H x := if_neg fun z => z.elim h1 h2
theorem cut2_a {a b : Addr} {H : Hp} : cut2 a b H a = none := if_pos (.inl rfl)
theorem cut2_b {a b : Addr} {H : Hp} : cut2 a b H b = none := if_pos (.inr rfl)
structure BPre (cY : Addr) (d : dB) (p : Addr) (G H : Hp) : Prop where
  sub : Ex G H
  gp : G p = none
  ga : G d.a = none
  gb : G d.b = none
  pa : p ≠ d.a
  pb : p ≠ d.b
  ab : d.a ≠ d.b
  o : ∃ o, H p = some o ∧ (Ob cY (yF d.n d.L d.a d.b (Is .non))).m o G
  oa : ∃ o, H d.a = some o ∧ (Dc (kys d.n) (dsP d.st.1)).m o G
  ob : ∃ o, H d.b = some o ∧ (Dc (kys d.n) (dwP d.st.2)).m o G
structure BPost (cY : Addr) (d : dB) (p : Addr) (G H : Hp) : Prop where
  gp : G p = none
  o : ∃ o, H p = some o ∧ (Ob cY (yF d.n d.L d.a d.b (rB d))).m o G
  oa : fwN d.n d.m d.st.1 = false → G d.a = none ∧ ∃ o, H d.a = some o ∧ (Dc (kys d.n) (dsP (fwB d.n d.m d.st).1)).m o G
  ob : fwN d.n d.m d.st.1 = false → G d.b = none ∧ ∃ o, H d.b = some o ∧ (Dc (kys d.n) (dwP (fwB d.n d.m d.st).2)).m o G
def spYb (cY : Addr) : Sp := fun vs H Q _ => ∃ (d : dB) (G : Hp) (p : Addr), vs = [.ref p, .int (d.m : Nat)] ∧ sB d ∧ BPre cY d p G H ∧ ∀ G' H', Step (some p) G (cut2 d.a d.b H) G' H' → BPost cY d p G' H' → Q .non H'
section
variable {P : Program} {w : World} {K : PySem.W.Frag} {mg : Str → Option Value} {base : Heap} {f : Addr} {fd : FuncData} {cR cF cW cU cY : Addr}
theorem ok_bend (bf : Fb mg) (y : YaF mg K cY) (TU : Gf P w K mg base 1 "turned" spTu) (LI : Gf P w K mg base 1 "lies" spLies) (SM : Mf P w K mg base 65 cY "simple" (spYs cY 64)) (F : FnP K "bend" "Ways.bend" (inClass (top 32) 1) f fd) : FnOk P w K mg base CX0 66 f fd ["self", "middle"] (spYb cY) := by
  refine F.ok scYb (fun vs H Q E ⟨d, G, p, ev, _⟩ => by rw [ev]; rfl) fun cdv Ar outer s H vs Q E hr ⟨d, G, p, ev, hs, hp, kk⟩ => ?_
  subst ev
  have hB := body_yb bf y TU LI SM d hs f cdv Ar outer s H E (fam_body hr)
  refine ⟨uB _ _, PSs.nox (uB_ps (X := bodyX P w K mg base NYb "Ways.bend" (defScope (inClass (top 32) 1)) f cdv Ar outer s H E) ()), ?_⟩
  obtain ⟨o, ho, mo⟩ := hp.o
  obtain ⟨oa, hoa, moa⟩ := hp.oa
  obtain ⟨ob, hob, mob⟩ := hp.ob
  have I0 : SI (some p) (fun x => (Fr ⟨some p, G, cut2 d.a d.b H⟩ x ∧ x ≠ d.b) ∧ x ≠ d.a) (padG NYb (.own (Ob cY (yF d.n d.L d.a d.b (Is .non))) :: [ni d.m].map .is)) (L2.start NYb [.ref p, .int (d.m : Nat)]) G H := start_own (Ps := [ni d.m]) (vs := [.int (d.m : Nat)]) hp.sub hp.gp ho mo ⟨rfl, trivial⟩
  have I1 := I0.putG (i := 5) (fun z => hp.pa (Option.some.inj z)) ⟨cut2_a, hp.ab⟩ hp.ga hoa moa
  have I2 := I1.putG (i := 6) (fun z => hp.pb (Option.some.inj z)) cut2_b hp.gb hob mob
  have st : Step (some p) G (cut2 d.a d.b H) G H := ⟨fun _ _ h => h, hp.sub, fun a o _ e => (cut2_some e).1, fun a o e => .inl ⟨o, e⟩, fun a e _ => by cases e; exact ⟨o, ho⟩⟩
  refine hB ⟨some p, G, cut2 d.a d.b H⟩ _ G H _ ⟨I2, st⟩ (fun σ' G' H' _ f' => ?_) fun v G' H' r => ?_
  · have f' : FS ⟨some p, G, cut2 d.a d.b H⟩ (gB2 cY d) σ' G' H' := f'
    cases hN : fwN d.n d.m d.st.1 with
    | true =>
      have : gB2 cY d = [.own (Ob cY (yF d.n d.L d.a d.b (Is .non))), .is (ni d.m), .is PdF, .gh d.a (Dc (kys d.n) (dsP (fwB d.n d.m d.st).1)), .gh d.b (Dc (kys d.n) (dwP (fwB d.n d.m d.st).2)), .any, .any] := by unfold gB2; rw [hN]; rfl
      rw [this] at f'
      obtain ⟨v, _, hv⟩ := f'.si.get (i := 2) rfl
      exact hv.elim
    | false =>
      obtain ⟨a, o', ea, hq, hg, ho', mo'⟩ := f'.si.getO (i := 0) rfl
      cases hq
      obtain ⟨oa', _, _, g1, h1, m1⟩ := f'.si.getG (i := 3) rfl
      obtain ⟨ob', _, _, g2, h2, m2⟩ := f'.si.getG (i := 4) rfl
      refine kk G' H' f'.st ⟨hg, ⟨o', ho', ?_⟩, fun _ => ⟨g1, oa', h1, m1⟩, fun _ => ⟨g2, ob', h2, m2⟩⟩
      have : rB d = Is .non := if_neg (by rw [hN]; exact Bool.false_ne_true)
      rw [this]; exact mo'
  · cases hN : fwN d.n d.m d.st.1 with
    | true =>
      have e1 : rN d = Is .non := if_pos hN
      have hv : v = .non := by have := r.r; rw [e1] at this; exact this
      obtain ⟨a, o', hq, hg, ho', mo'⟩ := r.o _ rfl
      cases hq
      subst hv
      exact kk G' H' r.st ⟨hg, ⟨o', ho', mo'⟩, fun z => absurd (hN.symm.trans z) (by decide), fun z => absurd (hN.symm.trans z) (by decide)⟩
    | false =>
      have e1 : rN d = PdF := if_neg (by rw [hN]; exact Bool.false_ne_true)
      have := r.r
      rw [e1] at this
      exact this.elim
end
end Tf
end
section
/-! self.bend(middle) as a statement. -/
namespace Tf
open PySem PySem.Spec PyProof.Rows L2 Ty
open Evl (Ex)
section
variable {q : Option Addr} {F : Addr → Prop} {Ga : List Sl} {σ : L2.St} {G H G' H' : Hp} {i ga gb : Nat} {a b p : Addr} {M M' Ma Mb : Mo} {t1 t2 : Sl} {o' : HO}
theorem gh_ne (h : SI q F Ga σ G H) (h1 : Ga[ga]? = some (.gh a Ma)) (h2 : Ga[gb]? = some (.gh b Mb)) (hn : ga ≠ gb) : a ≠ b := by
  obtain ⟨ad, h⟩ := h
  have k1 := (h.ok ga _ h1).1
  have k2 := (h.ok gb _ h2).1
  rw [k1, k2]
  exact h.ne ga gb _ _ hn h1 h2 trivial trivial
def GoodG (a : Addr) (t : Sl) (G H : Hp) : Prop := t = .any ∨ ∃ M, t = .gh a M ∧ G a = none ∧ ∃ o, H a = some o ∧ M.m o G
theorem SI.bent (h : SI q F Ga σ G H) (hi : Ga[i]? = some (.own M)) (h1 : Ga[ga]? = some (.gh a Ma)) (h2 : Ga[gb]? = some (.gh b Mb)) (hn : ga ≠ gb) (hq : q = some p) (t : Step (some p) G (cut2 a b H) G' H') (gp : G' p = none) (ho : H' p = some o') (hm : M'.m o' G') (g1 : GoodG a t1 G' H') (g2 : GoodG b t2 G' H') :
    SI q F (((Ga.set i (.own M')).set ga t1).set gb t2) σ G' H' := by
  obtain ⟨ad, h⟩ := h
  have k0 := h.ok i _ hi
  have k1 := h.ok ga _ h1
  have k2 := h.ok gb _ h2
  have eai : ad i = p := by
    have := k0.2.1
    rw [hq] at this
    exact (Option.some.inj this).symm
  have ea := k1.1
  have eb := k2.1
  have nia : i ≠ ga := fun z => by rw [z, h1] at hi; cases hi
  have nib : i ≠ gb := fun z => by rw [z, h2] at hi; cases hi
  have li : i < Ga.length := (List.getElem?_eq_some_iff.mp hi).1
  have la : ga < Ga.length := (List.getElem?_eq_some_iff.mp h1).1
  have lb : gb < Ga.length := (List.getElem?_eq_some_iff.mp h2).1
  have at_ : ∀ (x : Nat) (s : Sl), (((Ga.set i (.own M')).set ga t1).set gb t2)[x]? = some s → (x = gb ∧ s = t2) ∨ (x ≠ gb ∧ x = ga ∧ s = t1) ∨ (x ≠ gb ∧ x ≠ ga ∧ x = i ∧ s = .own M') ∨ (x ≠ gb ∧ x ≠ ga ∧ x ≠ i ∧ Ga[x]? = some s) := fun x s e => by
    by_cases c1 : x = gb
    · subst c1
      rw [List.getElem?_set_self (by rw [List.length_set, List.length_set]; exact lb)] at e
      cases e; exact .inl ⟨rfl, rfl⟩
    · rw [List.getElem?_set_ne (Ne.symm c1)] at e
      by_cases c2 : x = ga
      · subst c2
        rw [List.getElem?_set_self (by rw [List.length_set]; exact la)] at e
        cases e; exact .inr (.inl ⟨c1, rfl, rfl⟩)
      · rw [List.getElem?_set_ne (Ne.symm c2)] at e
        by_cases c3 : x = i
        · subst c3
          rw [List.getElem?_set_self li] at e
          cases e; exact .inr (.inr (.inl ⟨c1, c2, rfl, rfl⟩))
        · rw [List.getElem?_set_ne (Ne.symm c3)] at e
          exact .inr (.inr (.inr ⟨c1, c2, c3, e⟩))
  have nqa : q ≠ some (ad ga) := k1.2.1
  have nqb : q ≠ some (ad gb) := k2.2.1
  refine ⟨ad, t.s, by rw [List.length_set, List.length_set, List.length_set]; exact h.len, fun x s e => ?_, fun x y s u hxy e1 e2 m1 m2 => ?_, fun c ec => ?_⟩
  · rcases at_ x s e with ⟨rfl, rfl⟩ | ⟨_, rfl, rfl⟩ | ⟨_, _, rfl, rfl⟩ | ⟨c1, c2, c3, e'⟩
    · rcases g2 with rfl | ⟨M2, rfl, x1, x2⟩
      · trivial
      · exact ⟨eb, k2.2.1, k2.2.2.1, by rw [← eb]; exact x1, by rw [← eb]; exact x2⟩
    · rcases g1 with rfl | ⟨M2, rfl, x1, x2⟩
      · trivial
      · exact ⟨ea, k1.2.1, k1.2.2.1, by rw [← ea]; exact x1, by rw [← ea]; exact x2⟩
    · exact ⟨k0.1, k0.2.1, by rw [eai]; exact gp, o', by rw [eai]; exact ho, hm⟩
    · have kx := h.ok x s e'
      have away : s.mut → ad x ≠ a ∧ ad x ≠ b ∧ ad x ≠ p := fun ms => ⟨by rw [ea]; exact h.ne x ga _ _ c2 e' h1 ms trivial, by rw [eb]; exact h.ne x gb _ _ c1 e' h2 ms trivial, by rw [← eai]; exact h.ne x i _ _ c3 e' hi ms trivial⟩
      have stay : ∀ {u : HO}, s.mut → G (ad x) = none → H (ad x) = some u → G' (ad x) = none ∧ H' (ad x) = some u := fun {u} ms g hu => by
        obtain ⟨n1, n2, n3⟩ := away ms
        have hc : cut2 a b H (ad x) = some u := by rw [cut2_ne n1 n2]; exact hu
        refine ⟨?_, t.f (ad x) u (fun z => n3 (Option.some.inj z).symm) hc⟩
        cases e : G' (ad x) with
        | none => rfl
        | some z =>
          rcases t.n (ad x) z e with ⟨z', e'⟩ | e'
          · rw [g] at e'; cases e'
          · rw [hc] at e'; cases e'
      cases s with
      | any => trivial
      | is P => obtain ⟨v, e1, pv⟩ := kx; exact ⟨v, e1, P.mono t.k pv⟩
      | mu M1 => obtain ⟨x1, x2, x3, x4, u, hu, mm⟩ := kx; exact ⟨x1, x2, x3, (stay trivial x4 hu).1, u, (stay trivial x4 hu).2, M1.mono t.k mm⟩
      | own M1 => exact absurd (by have := kx.2.1; rw [hq] at this; exact (Option.some.inj this).symm) (away trivial).2.2
      | gh b1 M1 => obtain ⟨x1, x2, x3, x4, u, hu, mm⟩ := kx; exact ⟨x1, x2, x3, (stay trivial x4 hu).1, u, (stay trivial x4 hu).2, M1.mono t.k mm⟩
  · have key : ∀ (x : Nat) (s : Sl), (((Ga.set i (.own M')).set ga t1).set gb t2)[x]? = some s → s.mut → ∃ s', Ga[x]? = some s' ∧ s'.mut := fun x s e m => by
      rcases at_ x s e with ⟨rfl, rfl⟩ | ⟨_, rfl, rfl⟩ | ⟨_, _, rfl, rfl⟩ | ⟨_, _, _, e'⟩
      · exact ⟨_, h2, trivial⟩
      · exact ⟨_, h1, trivial⟩
      · exact ⟨_, hi, trivial⟩
      · exact ⟨s, e', m⟩
    obtain ⟨s1, e3, m3⟩ := key x s e1 m1
    obtain ⟨u1, e4, m4⟩ := key y u e2 m2
    exact h.ne x y s1 u1 hxy e3 e4 m3 m4
  · rw [hq] at ec
    cases ec
    exact ⟨gp, o', ho⟩
theorem Step.cutT {G0 H0 : Hp} (s : Step q G0 H0 G H) (t : Step (some p) G (cut2 a b H) G' H') (hq : q = some p) (h1 : H0 a = none) (h2 : H0 b = none) : Step q G0 H0 G' H' := by
  have up : ∀ x u, H0 x = some u → x ≠ a ∧ x ≠ b := fun x u e => ⟨fun z => (by rw [z, h1] at e; cases e), fun z => (by rw [z, h2] at e; cases e)⟩
  refine ⟨Ty.Ex.trans s.k t.k, t.s, fun x o nq e => ?_, fun x o e => ?_, fun x ex hx => ?_⟩
  · have hx := s.f x o nq e
    obtain ⟨n1, n2⟩ := up x o e
    exact t.f x o (fun z => nq (by rw [hq, z])) (by rw [cut2_ne n1 n2]; exact hx)
  · rcases t.n x o e with ⟨u, e'⟩ | e'
    · exact s.n x u e'
    · right
      cases c : H0 x with
      | none => rfl
      | some u =>
        obtain ⟨n1, n2⟩ := up x u c
        rw [cut2_ne n1 n2] at e'
        by_cases cq : q = some x
        · obtain ⟨u', e2⟩ := s.r x cq ⟨u, c⟩
          rw [e2] at e'; cases e'
        · rw [s.f x u cq c] at e'; cases e'
  · obtain ⟨o, ho⟩ := hx
    obtain ⟨n1, n2⟩ := up x o ho
    obtain ⟨u, hu⟩ := s.r x ex ⟨o, ho⟩
    exact t.r x (by rw [← hq, ex]) ⟨u, by rw [cut2_ne n1 n2]; exact hu⟩
end
section
variable {ι : Type} {X : ι → Cx} {Ga : List Sl} {e : Expr} {pos cpos apos py : Pos} {Pr : Program} {w : World} {K : PySem.W.Frag} {mg : Str → Option Value} {base : Heap} {j k i ga gb : Nat} {y : Str} {cY : Addr} {n : Option (List Sl)} {R : Pd} {O : Option Mo} {rest : List Stmt}
theorem b_bend {pl : ι → Sem Bool} (fam : Fam X Pr w K mg base j) (BE : Mf Pr w K mg base k cY "bend" (spYb cY)) (d : dB) (hs : sB d) (hv : ∀ l, PE (X l) (.Name y py) (tVar i)) (hi : Ga[i]? = some (.own (Ob cY (yF d.n d.L d.a d.b (Is .non))))) (h1 : Ga[ga]? = some (.gh d.a (Dc (kys d.n) (dsP d.st.1)))) (h2 : Ga[gb]? = some (.gh d.b (Dc (kys d.n) (dwP d.st.2)))) (hn : ga ≠ gb) (ha : TyA X Ga [e] [ni d.m] Ga)
    (r1 : fwN d.n d.m d.st.1 = true → TyB X (((Ga.set i (.own (Ob cY (yF d.n d.L d.a d.b ringP)))).set ga .any).set gb .any) rest n R O)
    (r2 : fwN d.n d.m d.st.1 = false → TyB X (((Ga.set i (.own (Ob cY (yF d.n d.L d.a d.b (Is .non))))).set ga (.gh d.a (Dc (kys d.n) (dsP (fwB d.n d.m d.st).1)))).set gb (.gh d.b (Dc (kys d.n) (dwP (fwB d.n d.m d.st).2)))) rest n R O) (hk : k ≤ j := by decide)
    (hsw : ∀ l, swapsWith (.Call (.Attribute (.Name y py) "bend" apos) [e] [] cpos) none pos.line (X l).env = pure false := by intro i; rfl)
    (hst : ∀ i, starEach [e] (X i).env = (false, eval e (X i).env) :: starEach [] (X i).env := by intro i; rfl) (hpl : ∀ i, (backTo cpos (starEach [] (X i).env)).any (·.1) = false := by intro i; rfl)
    (ht : ∀ i, eval (.Call (.Attribute (.Name y py) "bend" apos) [e] [] cpos) (X i).env = (do
      let ov ← eval (.Name y py) (X i).env
      standAt apos.atName
      let (f, first) ← holding [ov] (getMethod ov "bend" (pl i))
      callWith cpos f first (backTo cpos (starEach [e] (X i).env)) (backToKw cpos (keywordEach [] (X i).env))) := by intro i; rfl) :
    TyB X Ga (.Expr (.Call (.Attribute (.Name y py) "bend" apos) [e] [] cpos) pos :: rest) n R O := fun b σ G H D ff kn kr => by
  obtain ⟨fa, Fn, c, hm⟩ := BE.ex
  refine ⟨tSeq (tDrop (tMethR cY "bend" (spYb cY) E0 (tVar i) (uA X [e]))) (uB X rest), fun l => pss_cons (ps_expr (pe_methR (pl := pl l) (hv l) (by rw [fam.K l]; exact c) (by rw [fam.K l]; exact hm) (by rw [fam.prog l, fam.w l, fam.K l, fam.mg l, fam.base l]; exact Fn) ((fam.room l).mono hk) pass0 (uA_pa l) (hst l) (hpl l) (ht l)) (hsw l)) (uB_ps l), ?_⟩
  obtain ⟨p, o0, ep, hq, g0, ho0, dx, vs, eo, hp⟩ := ff.si.getO hi
  subst eo
  refine ⟨.ref p, ep, p, dx, _, rfl, ho0, lookup_no rfl, ha b.q (Fr b) σ G H ff.si _ fun ws G1 H1 t1 I1 p1 => ?_⟩
  match ws, p1 with
  | [v], ⟨pv, _⟩ =>
    obtain rfl : v = .int (d.m : Nat) := pv
    obtain ⟨p', o1, ep', hq', gp1, ho1, hm1⟩ := I1.getO hi
    rw [ep] at ep'
    cases ep'
    obtain ⟨oa, nqa, fa, gA, hoa, hma⟩ := I1.getG h1
    obtain ⟨ob, nqb, fb, gB, hob, hmb⟩ := I1.getG h2
    have f1 := ff.next t1 I1
    refine ⟨d, G1, p, rfl, hs, ⟨I1.sub, gp1, gA, gB, fun z => nqa (by rw [hq', z]), fun z => nqb (by rw [hq', z]), gh_ne I1 h1 h2 hn, ⟨o1, ho1, hm1⟩, ⟨oa, hoa, hma⟩, ⟨ob, hob, hmb⟩⟩, fun G2 H2 t2 post => ?_⟩
    obtain ⟨o2, ho2, hm2⟩ := post.o
    have st2 : Step b.q b.G0 b.H0 G2 H2 := Step.cutT f1.st t2 hq' fa fb
    have kn' : ∀ σ2 G3 H3, Ex G2 G3 → FSo b n σ2 G3 H3 → D.nx σ2 H3 := fun σ2 G3 H3 e2 f2 => kn σ2 G3 H3 (Ty.Ex.trans (Ty.Ex.trans t1.k t2.k) e2) f2
    cases hN : fwN d.n d.m d.st.1 with
    | true =>
      have eR : rB d = ringP := if_pos hN
      rw [eR] at hm2
      exact r1 hN b σ G2 H2 D ⟨SI.bent I1 hi h1 h2 hn hq' t2 post.gp ho2 hm2 (.inl rfl) (.inl rfl), st2⟩ kn' kr
    | false =>
      have eR : rB d = Is .non := if_neg (by rw [hN]; exact Bool.false_ne_true)
      rw [eR] at hm2
      exact r2 hN b σ G2 H2 D ⟨SI.bent I1 hi h1 h2 hn hq' t2 post.gp ho2 hm2 (.inr ⟨_, rfl, post.oa hN⟩) (.inr ⟨_, rfl, post.ob hN⟩), st2⟩ kn' kr
end
end Tf
end
section
/-! Ways( worths, rule). -/
namespace Ty
open PySem PySem.Spec PyProof.Rows L2
def anyP : Pd := ⟨fun _ _ => True, fun _ h => h⟩
theorem AllP.imp {G : Hp} : ∀ {Ps Qs : List Pd} {vs : List V}, Ps.length = Qs.length → (∀ (i : Nat) (P Q : Pd), Ps[i]? = some P → Qs[i]? = some Q → ∀ v, P.p v G → Q.p v G) → AllP Ps vs G → AllP Qs vs G
  | [], [], [], _, _, _ => trivial
  | P :: Ps, Q :: Qs, v :: vs, hl, h, ha => ⟨h 0 P Q rfl rfl v ha.1, AllP.imp (by simpa using hl) (fun i P' Q' h1 h2 => h (i + 1) P' Q' (by simpa using h1) (by simpa using h2)) ha.2⟩
  | [], _ :: _, _, hl, _, _ => by simp at hl
  | _ :: _, [], _, hl, _, _ => by simp at hl
  | [], [], _ :: _, _, _, h => h.elim
  | _ :: _, _ :: _, [], _, _, h => h.elim
end Ty
namespace Tf
open PySem PySem.Spec PyProof.Rows L2 Ty
abbrev yFin (n : Nat) (L : Nat × Nat → Int) (o : Option FwSt) : List (Str × Pd) := [("kinds", ni n), ("losses", Dt (liesV n) (dsP L)), ("sums", match o with | some s => Dt (kys n) (dsP s.1) | none => anyP), ("ways", anyP), ("ring", match o with | some _ => Is .non | none => ringP)]
abbrev Lp (d : dWR) : Nat × Nat → Int := fun p => LV d p.1 p.2
abbrev yV (d : dWR) : Option FwSt := fwV (LV d) d.1.length
theorem ob_end {cY : Addr} {n : Nat} {L : Nat × Nat → Int} {s : FwSt} {b : Addr} {o : HO} {G : Hp} (h : (Ob cY [("kinds", ni n), ("losses", Dt (liesV n) (dsP L)), ("sums", Dt (kys n) (dsP s.1)), ("ways", Is (.ref b)), ("ring", Is .non)]).m o G) : (Ob cY (yFin n L (some s))).m o G := by
  obtain ⟨dx, vs, e, al⟩ := h
  refine ⟨dx, vs, e, Ty.AllP.imp (Ps := [ni n, Dt (liesV n) (dsP L), Dt (kys n) (dsP s.1), Is (.ref b), Is .non]) rfl (fun i P Q h1 h2 v hv => ?_) al⟩
  match i, h1, h2 with
  | 0, h1, h2 => cases h1; cases h2; exact hv
  | 1, h1, h2 => cases h1; cases h2; exact hv
  | 2, h1, h2 => cases h1; cases h2; exact hv
  | 3, h1, h2 => cases h1; cases h2; trivial
  | 4, h1, h2 => cases h1; cases h2; exact hv
  | i + 5, h1, h2 => cases h1
theorem ob_endN {cY : Addr} {n : Nat} {L : Nat × Nat → Int} {a b : Addr} {o : HO} {G : Hp} (h : (Ob cY (yF n L a b ringP)).m o G) : (Ob cY (yFin n L none)).m o G := by
  obtain ⟨dx, vs, e, al⟩ := h
  refine ⟨dx, vs, e, Ty.AllP.imp (Ps := [ni n, Dt (liesV n) (dsP L), Is (.ref a), Is (.ref b), ringP]) rfl (fun i P Q h1 h2 v hv => ?_) al⟩
  match i, h1, h2 with
  | 0, h1, h2 => cases h1; cases h2; exact hv
  | 1, h1, h2 => cases h1; cases h2; exact hv
  | 2, h1, h2 => cases h1; cases h2; trivial
  | 3, h1, h2 => cases h1; cases h2; trivial
  | 4, h1, h2 => cases h1; cases h2; exact hv
  | i + 5, h1, h2 => cases h1
theorem range_split {n i : Nat} {pre post : List Nat} (h : List.range n = pre ++ i :: post) : i = pre.length ∧ i < n := by
  have h1 : (List.range n)[pre.length]? = some i := by rw [h, List.getElem?_append_right (Nat.le_refl _), Nat.sub_self]; rfl
  obtain ⟨hl, e⟩ := List.getElem?_eq_some_iff.mp h1
  rw [List.getElem_range] at e
  rw [List.length_range] at hl
  exact ⟨e.symm, by omega⟩
section
variable {P : Program} {w : World} {K : PySem.W.Frag} {mg : Str → Option Value} {base : Heap} {f : Addr} {fd : FuncData} {cR cF cW cU cY : Addr}
abbrev NYi : List Str := ["self", "worths", "rule", "middle", "kind", "told"]
theorem scYi : FnScope NYi ["self", "worths", "rule"] (defScope (inClass (top 32) 0)) := ⟨rfl, rfl, rfl, by decide +kernel, rfl, by decide +kernel, by decide +kernel⟩
abbrev spYi (cY cW cU : Addr) : Sp := spMk cY (aWR cW cU) sWR fun d => yFin d.1.length (Lp d) (yV d)
theorem lies_nd {n : Nat} (h : n ≤ 6) : (liesV n).Nodup ∧ (kys n).Nodup := by
  have : n = 0 ∨ n = 1 ∨ n = 2 ∨ n = 3 ∨ n = 4 ∨ n = 5 ∨ n = 6 := by omega
  rcases this with rfl | rfl | rfl | rfl | rfl | rfl | rfl <;> exact ⟨by decide, by decide⟩
theorem body_yi (bf : Fb mg) (y : YaF mg K cY) (rw_ : WoF mg K cW) (m : GaM P w K mg base cR cF cW cU) (BE : Mf P w K mg base 66 cY "bend" (spYb cY)) (d : dWR) (h : sWR d) : BodyOk P w K mg base NYi "Ways.__init__" (defScope (inClass (top 32) 0)) (defBody (inClass (top 32) 0)) 66 (padG NYi (.own (Ob cY []) :: (aWR cW cU d).map .is)) (Is .non) (some (Ob cY (yFin d.1.length (Lp d) (yV d)))) := by
  intro f cdv Ar outer s H E fam
  have nd := scYi.nd
  have n6 := h.rc.n6
  generalize hn : d.1.length = n at *
  have hz : (kys n).length < sizeLine := by have := kys_len n6; rw [sizeLine_eq]; omega
  have hz1 : (liesV n).length ≤ sizeLine := by have := lies_len n6; rw [sizeLine_eq]; omega
  refine ⟨some [.own (Ob cY (yFin n (Lp d) (yV d))), .is (Wo cW d.1), .is (Ru cU d.2), .any, .any, .any], ?_, fun Ge e => ⟨fun _ => rfl, by cases e; exact OwnAt.at 0 rfl⟩⟩
  refine b_expr (e_gf fam m.cr d (fun _ => rfl) (a_2 (vr 1) (vr 2)) h) ?_
  refine b_fld (fun _ => rfl) y.cl y.naK (fun _ => pv 0) (P := ni n) (TyE.eq (e_kinds rw_ (fun _ => rfl) (vr 1)) (by rw [hn])) rfl .own rfl (of_decide_eq_true rfl) ?_
  refine b_fld (fun _ => rfl) y.cl y.naL (fun _ => pv 0) (P := Dt (liesV n) (dsP (Lp d))) (e_r (TyN.known (n_dcT (ds := liesV n) (key := fun p => p) (f := dsP (Lp d)) (vs := [4, 5]) (ks := [4, 5])
    (Bd := fun p => [.own (Ob cY [("kinds", ni n)]), .is (Wo cW d.1), .is (Ru cU d.2), .any, .is (ni p.1), .is (ni p.2)]) (Be := fun p => [.own (Ob cY [("kinds", ni n)]), .is (Wo cW d.1), .is (Ru cU d.2), .any, .is (ni p.1), .is (ni p.2)]) (Bf := fun p => [.own (Ob cY [("kinds", ni n)]), .is (Wo cW d.1), .is (Ru cU d.2), .any, .is (ni p.1), .is (ni p.2)])
    (iw_of (it := pairP) (i_list (fun _ => rfl) (e_gf fam m.li n (fun _ => rfl) (a_1 (TyE.eq (e_kinds rw_ (fun _ => rfl) (vr 1)) (by rw [hn]))) n6)) (fun p _ => g_pr 4 5 (fun _ => rfl) (fun _ => rfl) (fun _ => nd))) hz1 (fun i M h => ?_) (fun _ h => h) (fun p hp => e_tup (a_2 (vr 4) (vr 5)) len2) (fun p hp => ?_) (fun p _ => GaLe.refl _) (by rw [List.map_id']; exact (lies_nd n6).1)) (fun p o G hg mm => ?_)) (mk_dcT (own := [("kind", 4), ("told", 5)]) fam (fun _ => nd) (fun _ => blkOk_by rfl))) rfl .own rfl (of_decide_eq_true rfl) ?_
  · match i, h with
    | 0, _ => decide
    | 1, h => cases h
    | 2, h => cases h
    | 3, h => cases h
    | 4, h => cases h
    | 5, h => cases h
    | i + 6, h => cases h
  · have hp' := mem_lies.mp hp
    exact e_gf fam.blk m.lo (d, p.1, p.2) (fun _ => rfl) (a_cons (vr 1) (a_cons (vr 2) (a_2 (vr 4) (vr 5)))) ⟨h, by show p.1 < d.1.length; rw [hn]; exact hp'.1, by show p.2 < d.1.length; rw [hn]; exact hp'.2.1⟩
  · rw [List.map_id'] at mm
    exact Dc.known p o G hg mm
  let L0 := (fw0 (LV d)).1
  let W0 := (fw0 (LV d)).2
  have eL : (liesV n).map (dsP (Lp d)) = (liesV n).map (dsP L0) := List.map_congr_left fun p hp => by
    have : L0 p = Lp d p := if_neg (mem_lies.mp hp).2.2
    show IsI (Lp d p) = IsI (L0 p)
    rw [this]
  have g2 : ∀ (i : Nat) (M : Mo) (Fs : List (Str × Pd)), ([.own (Ob cY Fs), .is (Wo cW d.1), .is (Ru cU d.2), .any, .any, .any] : List Sl)[i]? = some (Sl.own M) → i = 0 := fun i M Fs h => by
    match i, h with
    | 0, _ => rfl
    | 1, h => cases h
    | 2, h => cases h
    | 3, h => cases h
    | 4, h => cases h
    | 5, h => cases h
    | i + 6, h => cases h
  refine b_fldN (M := Dc (kys n) (dsP L0)) (Gb := [.own (Ob cY [("kinds", ni n), ("losses", Dt (liesV n) (dsP (Lp d)))]), .is (Wo cW d.1), .is (Ru cU d.2), .any, .any, .any]) 3 (fun _ => rfl) y.cl y.naS (fun _ => pv 0) (mk_ds (Pr := P) (w := w) fam) (n_ds (Gb := [.own (Ob cY [("kinds", ni n), ("losses", Dt (liesV n) (dsP (Lp d)))]), .is (Wo cW d.1), .is (Ru cU d.2), .any, .any, .any]) (f := dsP L0) (ks := liesV n) (ls := (List.range n).map fun k => (k, k)) (TyE.conv (e_fldO (k := 1) (fun _ => rfl) y.cl y.naL (fun _ => pv 0) rfl .own rfl ⟨rfl, rfl⟩) fun v G hv => ?_)
    (e_r (TyN.known (P := Dt ((List.range n).map fun k => (k, k)) (dsP L0)) (n_dcT (ds := List.range n) (key := fun k => (k, k)) (f := dsP L0) (vs := [4]) (ks := [4]) (Bd := fun k => [.own (Ob cY [("kinds", ni n), ("losses", Dt (liesV n) (dsP (Lp d)))]), .is (Wo cW d.1), .is (Ru cU d.2), .any, .is (ni k), .any]) (Be := fun k => [.own (Ob cY [("kinds", ni n), ("losses", Dt (liesV n) (dsP (Lp d)))]), .is (Wo cW d.1), .is (Ru cU d.2), .any, .is (ni k), .any]) (Bf := fun k => [.own (Ob cY [("kinds", ni n), ("losses", Dt (liesV n) (dsP (Lp d)))]), .is (Wo cW d.1), .is (Ru cU d.2), .any, .is (ni k), .any])
      (iw_of (it := ni) (i_rng (fun _ => bf.range) (TyE.eq (e_kinds rw_ (fun _ => rfl) (vr 1)) (by rw [hn])) (by omega)) (fun k _ => g_nm 4 (fun _ => nd))) (by rw [List.length_range, sizeLine_eq]; omega) (fun i M h => by rw [g2 i M _ h]; decide) (fun _ h => h) (fun k hk => e_tup (a_2 (vr 4) (vr 4)) len2) (fun k hk => TyE.eq e_int (show IsI 0 = IsI (L0 (k, k)) by rw [show L0 (k, k) = 0 from if_pos rfl])) (fun p _ => GaLe.refl _) ?_) Dc.known) (mk_dcT (own := [("kind", 4)]) fam (fun _ => nd) (fun _ => blkOk_by rfl))) (lies_nd n6).2 ?_ ?_) rfl rfl (show 2 < 1000 by decide) (by decide) (fun da => ?_)
  · obtain ⟨a, vs, e1, e2, e3⟩ := hv
    rw [eL] at e3
    exact ⟨a, vs, e1, e2, e3⟩
  · have := (lies_nd n6).2
    unfold kys at this
    exact (List.nodup_append.mp this).2.1
  · intro p hp
    have := mem_kys.mp hp
    omega
  · have := kys_len n6
    unfold kys at this
    omega
  have hW : ∀ p : Nat × Nat, (p.1 = p.2 → W0 p = [p.1]) ∧ (p.1 ≠ p.2 → W0 p = [p.1, p.2]) := fun p => ⟨fun e => if_pos e, fun e => if_neg e⟩
  refine b_fldN (M := Dc (kys n) (dwP W0)) (Gb := [.own (Ob cY [("kinds", ni n), ("losses", Dt (liesV n) (dsP (Lp d))), ("sums", Is (.ref da))]), .is (Wo cW d.1), .is (Ru cU d.2), .gh da (Dc (kys n) (dsP L0)), .any, .any]) 4 (fun _ => rfl) y.cl y.naW (fun _ => pv 0) (mk_dcL (own := [("kind", 4), ("told", 5)]) fam (fun _ => nd) (fun _ => blkOk_by rfl)) (n_dcL (ls := kys n) (f0 := dsP L0) (f := dwP W0) 3 4 5 (by decide) rfl ⟨by decide, by decide⟩ (fun M => e_fldO (k := 2) (fun _ => rfl) y.cl y.naS (fun _ => pv 0) rfl .own rfl ⟨rfl, rfl⟩) (fun _ => rfl) (Nat.le_of_lt hz) (fun i M h => ?_)
    (fun l => pg_tup rfl (pgs_cons (pg_name nd rfl (by first | exact Or.inl rfl | exact Or.inr rfl)) (pgs_cons (pg_name nd rfl (by first | exact Or.inl rfl | exact Or.inr rfl)) pgs_nil))) (lies_nd n6).2 (fun M p _ => e_tup (a_2 (vr 4) (vr 5)) len2) (fun M p _ => e_if (t_ne (vr 4) (vr 5)) (fun hb => TyE.eq (e_tup (a_2 (vr 4) (vr 5)) len2) ?_) (fun hb => TyE.eq (e_tup (a_1 (vr 4)) len1) ?_))) rfl rfl (show 3 < 1000 by decide) (by decide) (fun db => ?_)
  · match i, h with
    | 0, _ => exact ⟨by decide, by decide⟩
    | 1, h => cases h
    | 2, h => cases h
    | 3, h => cases h
    | 4, h => cases h
    | 5, h => cases h
    | i + 6, h => cases h
  · have : p.1 ≠ p.2 := fun e => by rw [e] at hb; simp at hb
    show _ = Tp ((W0 p).map ni)
    rw [(hW p).2 this]; rfl
  · have : p.1 = p.2 := by have := hb; simp at this; omega
    show _ = Tp ((W0 p).map ni)
    rw [(hW p).1 this]; rfl
  refine b_fld (fun _ => rfl) y.cl y.naR (fun _ => pv 0) (P := Is .non) e_non rfl .own rfl (of_decide_eq_true rfl) ?_
  refine b_moveG (g := 3) (j := 5) rfl ?_
  let inv : Option FwSt → List Sl := fun o => match o with
    | some s => [.own (Ob cY (yF n (Lp d) da db (Is .non))), .is (Wo cW d.1), .is (Ru cU d.2), .any, .gh db (Dc (kys n) (dwP s.2)), .gh da (Dc (kys n) (dsP s.1))]
    | none => [.own (Ob cY (yF n (Lp d) da db ringP)), .is (Wo cW d.1), .is (Ru cU d.2), .any, .any, .any]
  let bod : Option FwSt → Nat → List Sl := fun o i => match o with
    | some s => [.own (Ob cY (yF n (Lp d) da db (Is .non))), .is (Wo cW d.1), .is (Ru cU d.2), .is (ni i), .gh db (Dc (kys n) (dwP s.2)), .gh da (Dc (kys n) (dsP s.1))]
    | none => [.own (Ob cY (yF n (Lp d) da db ringP)), .is (Wo cW d.1), .is (Ru cU d.2), .is (ni i), .any, .any]
  refine b_forF (ks := [3]) (List.range n) ni inv bod (fwT n) (some (fw0 (LV d))) (fun pre o => ∀ s, o = some s → WyI n pre.length s.2) (fun s e => by cases e; exact fw0_W) (fun _ => rfl) (fun _ => rfl) (i_rng (fun _ => bf.range) (TyE.eq (e_kinds rw_ (fun _ => rfl) (vr 1)) (by rw [hn])) (by omega)) (fun o i _ => ?_) (fun pre o i hi hok hpo => ?_) (fun pre o i hi hok hpo => ?_) fun _ => ?_
  · cases o with
    | none => exact g_nm 3 (fun _ => nd)
    | some s => exact g_nm 3 (fun _ => nd)
  · obtain ⟨post, hpo⟩ := hpo
    obtain ⟨ei, hin⟩ := range_split hpo
    cases o with
    | none => exact b_guard (t_isN' (e_fldO (k := 4) (fun _ => rfl) y.cl y.naR (fun _ => pv 0) rfl .own rfl ⟨rfl, rfl⟩) fun v G => ringP_ref) rfl (b_nil (.cons .rfl (.cons .rfl (.cons .rfl (.cons .any (.cons .rfl (.cons .rfl .nil)))))))
    | some s =>
      have hw := hok s rfl
      rw [← ei] at hw
      refine b_if (b := true) (Gc := inv (fwT n (some s) i)) (TyT.eq (t_isN (e_fldO (k := 4) (fun _ => rfl) y.cl y.naR (fun _ => pv 0) rfl .own rfl ⟨rfl, rfl⟩)) rfl) (fun _ => ?_) (fun h => nomatch h) (b_nil (GaLe.refl _))
      refine b_bend (ga := 5) (gb := 4) fam BE (⟨n, i, Lp d, s, da, db⟩ : dB) ⟨n6, hin, hw⟩ (fun _ => pv 0) rfl rfl rfl (by decide) (a_1 (vr 3)) (fun hN => b_nil ?_) (fun hN => b_nil ?_)
      · have e : fwT n (some s) i = none := if_pos hN
        rw [e]
        exact .cons .rfl (.cons .rfl (.cons .rfl (.cons .any (.cons .rfl (.cons .rfl .nil)))))
      · have e : fwT n (some s) i = some (fwB n i s) := if_neg (by rw [hN]; exact Bool.false_ne_true)
        rw [e]
        exact .cons .rfl (.cons .rfl (.cons .rfl (.cons .any (.cons .rfl (.cons .rfl .nil)))))
  · obtain ⟨post, hpo⟩ := hpo
    obtain ⟨ei, hin⟩ := range_split hpo
    intro s' e
    cases o with
    | none => cases e
    | some s =>
      have hw := hok s rfl
      cases hN : fwN n i s.1 with
      | true =>
        have e2 : fwT n (some s) i = none := if_pos hN
        rw [e2] at e; cases e
      | false =>
        have e2 : fwT n (some s) i = some (fwB n i s) := if_neg (by rw [hN]; exact Bool.false_ne_true)
        rw [e2] at e
        cases e
        rw [List.length_append, List.length_singleton]
        exact fwB_W hw hin
  · show TyB _ (inv (fwV (LV d) n)) _ _ _ _
    cases hv : fwV (LV d) n with
    | none =>
      have : yV d = none := by show fwV (LV d) d.1.length = none; rw [hn]; exact hv
      rw [this]
      exact b_nil (.cons (.own fun o G => ob_endN) (.cons .rfl (.cons .rfl (.cons .any (.cons .any (.cons .any .nil))))))
    | some s =>
      have : yV d = some s := by show fwV (LV d) d.1.length = some s; rw [hn]; exact hv
      rw [this]
      exact b_freezeF (i := 0) (g := 5) (k := 2) rfl rfl rfl (b_nil (.cons (.own fun o G => ob_end) (.cons .rfl (.cons .rfl (.cons .any (.cons .any (.cons .any .nil)))))))
end
end Tf
end
section
/-! What is asked of Ways. -/
namespace Tf
open PySem PySem.Spec PyProof.Rows L2 Ty
def rRing (o : Option FwSt) : Pd := match o with
  | some _ => Is .non
  | none => ringP
def amP (cR : Addr) : Option Rat → Pd
  | none => Is .non
  | some q => Ra cR q
section
variable {P : Program} {w : World} {K : PySem.W.Frag} {mg : Str → Option Value} {base : Heap} {f : Addr} {fd : FuncData} {cR cF cW cU cY : Addr}
abbrev NWR : List Str := ["worths", "rule"]
theorem scWO : FnScope ["worths", "rule", "ways"] NWR (defScope (top 34)) := ⟨rfl, rfl, rfl, by decide +kernel, rfl, by decide +kernel, by decide +kernel⟩
theorem scCB : FnScope NWR NWR (defScope (top 35)) := ⟨rfl, rfl, rfl, by decide +kernel, rfl, by decide +kernel, by decide +kernel⟩
theorem scRN : FnScope NWR NWR (defScope (top 36)) := ⟨rfl, rfl, rfl, by decide +kernel, rfl, by decide +kernel, by decide +kernel⟩
theorem scBG : FnScope ["amount"] ["amount"] (defScope (top 37)) := ⟨rfl, rfl, rfl, by decide +kernel, rfl, by decide +kernel, by decide +kernel⟩
abbrev spRN (cW cU : Addr) : Sp := SpD (aWR cW cU) sWR (fun d => rRing (yV d))
abbrev spCB (cW cU : Addr) : Sp := SpD (aWR cW cU) sWR (fun d => IsB (yV d).isSome)
abbrev dWY := dWR × FwSt
abbrev sWY (d : dWY) : Prop := sWR d.1 ∧ yV d.1 = some d.2
abbrev rWY (cY : Addr) (d : dWY) : Pd := In cY (yFin d.1.1.length (Lp d.1) (some d.2))
abbrev spWO (cY cW cU : Addr) : Sp := SpD (fun d : dWY => aWR cW cU d.1) sWY (rWY cY)
abbrev spBG (cR : Addr) : Sp := SpD (fun a : Option Rat => [amP cR a]) (fun _ => True) (fun a => Ra cR (a.getD 0))
theorem yFin_ring {n : Nat} {L : Nat × Nat → Int} {o : Option FwSt} : (yFin n L o)[4]? = some (("ring" : Str), rRing o) := by cases o <;> rfl
theorem yFin_at {n : Nat} {L : Nat × Nat → Int} {o : Option FwSt} : AtF (yFin n L o) "ring" 4 := by cases o <;> exact ⟨rfl, rfl⟩
theorem body_rn (y : YaF mg K cY) (MY : Mkf P w K mg base 67 cY (spYi cY cW cU)) (d : dWR) (h : sWR d) : BodyOk P w K mg base NWR "ring_or_none" (defScope (top 36)) (defBody (top 36)) 68 (padG NWR ((aWR cW cU d).map .is)) (rRing (yV d)) none := by
  intro f cdv Ar outer s H E fam
  refine ⟨none, ?_, fun _ h => nomatch h⟩
  exact b_ret (e_fld 4 (fun _ => rfl) y.cl y.naR (e_mk fam MY d (fun _ => rfl) y.glo (a_2 (vr 0) (vr 1)) h) yFin_ring yFin_at) OwnAt.none
theorem body_cb (RN : Gf P w K mg base 69 "ring_or_none" (spRN cW cU)) (d : dWR) (h : sWR d) : BodyOk P w K mg base NWR "can_be_true" (defScope (top 35)) (defBody (top 35)) 69 (padG NWR ((aWR cW cU d).map .is)) (IsB (yV d).isSome) none := by
  intro f cdv Ar outer s H E fam
  refine ⟨none, ?_, fun _ h => nomatch h⟩
  cases e : yV d with
  | some st => exact b_ret (TyE.eq (v_isN (TyE.eq (P' := Is .non) (e_gf fam RN d (fun _ => rfl) (a_2 (vr 0) (vr 1)) h) (by rw [e]; rfl))) rfl) OwnAt.none
  | none => exact b_ret (TyE.eq (e_cmp (fun _ => op_isN) (TyE.eq (P' := ringP) (e_gf fam RN d (fun _ => rfl) (a_2 (vr 0) (vr 1)) h) (by rw [e]; rfl)) e_non (o_isN' fun v G => ringP_ref) (by first | exact nomark _ | rfl)) rfl) OwnAt.none
theorem body_wo (y : YaF mg K cY) (MY : Mkf P w K mg base 67 cY (spYi cY cW cU)) (d : dWY) (h : sWY d) : BodyOk P w K mg base ["worths", "rule", "ways"] "ways_of" (defScope (top 34)) (defBody (top 34)) 68 (padG ["worths", "rule", "ways"] ((aWR cW cU d.1).map .is)) (rWY cY d) none := by
  intro f cdv Ar outer s H E fam
  have nd := scWO.nd
  refine ⟨none, ?_, fun _ h => nomatch h⟩
  refine b_st 2 (fun _ => nd) (P := rWY cY d) (TyE.eq (e_mk fam MY d.1 (fun _ => rfl) y.glo (a_2 (vr 0) (vr 1)) h.1) (by rw [h.2])) ?_
  refine b_guard (TyT.eq (t_notN (e_fld (P := Is .non) 4 (fun _ => rfl) y.cl y.naR (vr 2) rfl ⟨rfl, rfl⟩)) rfl) rfl (b_ret (vr 2) OwnAt.none)
theorem body_bg (r : RaM P w K mg base cR) (a : Option Rat) : BodyOk P w K mg base ["amount"] "begin_of" (defScope (top 37)) (defBody (top 37)) 4 (padG ["amount"] ([amP cR a].map .is)) (Ra cR (a.getD 0)) none := by
  intro f cdv Ar outer s H E fam
  refine ⟨none, ?_, fun _ h => nomatch h⟩
  cases a with
  | none => exact b_ret (e_if (b := true) (TyT.eq (t_isN (vr 0 (P := Is .non))) rfl) (fun _ => e_rwhole fam r e_int) (fun h => nomatch h)) OwnAt.none
  | some q => exact b_ret (e_if (b := false) (t_isN' (vr 0 (P := Ra cR q)) fun v G hv => by obtain ⟨a, dx, vs, rfl, _⟩ := hv; exact fun h => nomatch h) (fun h => nomatch h) (fun _ => vr 0)) OwnAt.none
end
end Tf
end
section
/-! greatest_fees, least_fees, spread, is_only. -/
namespace Tf
open PySem PySem.Spec PyProof.Rows L2 Ty
structure dG where
  wy : dWY
  k : Nat
  amt : Option Rat
structure sG (d : dG) : Prop where
  wy : sWY d.wy
  kn : d.k < d.wy.1.1.length
  sz : Q6 (2 ^ 100) (d.amt.getD 0)
theorem Q6.sum {rows : List (List Int)} {t : List Nat} {s : FwSt} (h : Vd rows t) (hs : fwV (lossV rows t) rows.length = some s) {i j : Nat} (hi : i < rows.length) (hj : j < rows.length) : Q6 (2 ^ 90) (s.1 (i, j) : Rat) := (Q6.int ((fw_clo hs).bd (lossV_bd h) hi hj)).mono (by decide)
def gfV (n : Nat) (D : Nat × Nat → Int) (k : Nat) (a : Rat) : List Rat := (List.range n).map fun o => a + (D (o, k) : Rat)
def lfV (n : Nat) (D : Nat × Nat → Int) (k : Nat) (a : Rat) : List Rat := (List.range n).map fun o => a - (D (k, o) : Rat)
section
variable {P : Program} {w : World} {K : PySem.W.Frag} {mg : Str → Option Value} {base : Heap} {f : Addr} {fd : FuncData} {cR cF cW cU cY : Addr}
section
variable {ι : Type} {X : ι → Cx} {Ga Gb : List Sl} {e : Expr} {pos : Pos} {d : dWY}
theorem e_fsum (y : YaF mg K cY) (hK : ∀ l, (X l).K = K) (h : TyE X Ga e (rWY cY d) Gb) (hb : ∀ l, attributeBase e "sums" (X l).env (eval e (X l).env) = eval e (X l).env := by intro l; rfl) : TyE X Ga (.Attribute e "sums" pos) (Dt (kys d.1.1.length) (dsP d.2.1)) Gb := e_fld 2 hK y.cl y.naS h rfl ⟨rfl, rfl⟩ hb
end
abbrev NGF : List Str := ["worths", "rule", "kind", "amount", "sums", "found", "other"]
theorem scGF : FnScope NGF ["worths", "rule", "kind", "amount"] (defScope (top 38)) := ⟨rfl, rfl, rfl, by decide +kernel, rfl, by decide +kernel, by decide +kernel⟩
theorem scLF : FnScope NGF ["worths", "rule", "kind", "amount"] (defScope (top 39)) := ⟨rfl, rfl, rfl, by decide +kernel, rfl, by decide +kernel, by decide +kernel⟩
abbrev aG (cR cW cU : Addr) (d : dG) : List Pd := [Wo cW d.wy.1.1, Ru cU d.wy.1.2, ni d.k, amP cR d.amt]
abbrev spGF (cR cF cW cU : Addr) : Sp := SpD (aG cR cW cU) sG (fun d => Fe cR cF (gfV d.wy.1.1.length d.wy.2.1 d.k (d.amt.getD 0)))
abbrev spLF (cR cF cW cU : Addr) : Sp := SpD (aG cR cW cU) sG (fun d => Fe cR cF (lfV d.wy.1.1.length d.wy.2.1 d.k (d.amt.getD 0)))
theorem body_gf (b : Fb mg) (r : RaM P w K mg base cR) (rw_ : WoF mg K cW) (ff : FeF mg K cF) (y : YaF mg K cY) (m : GaM P w K mg base cR cF cW cU) (WO : Gf P w K mg base 69 "ways_of" (spWO cY cW cU)) (BG : Gf P w K mg base 5 "begin_of" (spBG cR)) (mf : Mkf P w K mg base 1 cF (spFI cR cF)) (d : dG) (h : sG d) : BodyOk P w K mg base NGF "greatest_fees" (defScope (top 38)) (defBody (top 38)) 69 (padG NGF ((aG cR cW cU d).map .is)) (Fe cR cF (gfV d.wy.1.1.length d.wy.2.1 d.k (d.amt.getD 0))) none := by
  intro f cdv Ar outer s H E fam
  have nd := scGF.nd
  have hv := h.wy.1
  have n1 := hv.rc.n1
  have n6 := hv.rc.n6
  refine ⟨none, ?_, fun _ h => nomatch h⟩
  refine b_expr (e_gf fam m.cr d.wy.1 (fun _ => rfl) (a_2 (vr 0) (vr 1)) hv) ?_
  refine b_expr (e_gf fam m.ck (d.wy.1.1, [d.k]) (fun _ => rfl) (a_2 (vr 0) (e_lst (a_1 (vr 2)) len1)) (by intro k hk; rw [List.mem_singleton.mp hk]; exact h.kn)) ?_
  refine b_st 4 (fun _ => nd) (e_fsum (d := d.wy) y (fun _ => rfl) (e_gf fam WO d.wy (fun _ => rfl) (a_2 (vr 0) (vr 1)) h.wy)) ?_
  refine b_lcN (ds := List.range d.wy.1.1.length) (it := ni) (f := fun o => Ra cR (d.amt.getD 0 + (d.wy.2.1 (o, d.k) : Rat))) 5 6 (fun _ => nd) (fun _ => rfl) (i_rng (fun _ => b.range) (e_kinds rw_ (fun _ => rfl) (vr 0)) (by omega)) (fun o ho => ?_) (by rw [List.length_range, sizeLine_eq]; omega) (fun i M h z => by subst z; cases h) ?_
  · have ho' := List.mem_range.mp ho
    exact e_radd fam.blk r (e_gf fam.blk BG d.amt (fun _ => rfl) (a_1 (vr 3)) trivial) (e_rwhole fam.blk r (e_dget (f := dsP d.wy.2.1) fam.blk (o, d.k) (vr 4) (e_tup (a_2 (vr 6) (vr 2)) len2) (mem_kys.mpr ⟨ho', h.kn⟩))) (h.sz.sz (by decide)) ((Q6.sum hv h.wy.2 ho' h.kn).sz (by decide))
  · exact b_ret (e_mkS fam mf (gfV d.wy.1.1.length d.wy.2.1 d.k (d.amt.getD 0)) (fun _ => rfl) ff.glo (TyE.conv (vr 5) fun v G hp => Ls.sq (by unfold gfV; rw [List.map_map]; exact hp)) ⟨by unfold gfV; rw [List.length_map, List.length_range]; exact n1, by unfold gfV; rw [List.length_map, List.length_range]; exact n6⟩) OwnAt.none
theorem body_lf (b : Fb mg) (r : RaM P w K mg base cR) (rw_ : WoF mg K cW) (ff : FeF mg K cF) (y : YaF mg K cY) (m : GaM P w K mg base cR cF cW cU) (WO : Gf P w K mg base 69 "ways_of" (spWO cY cW cU)) (BG : Gf P w K mg base 5 "begin_of" (spBG cR)) (mf : Mkf P w K mg base 1 cF (spFI cR cF)) (d : dG) (h : sG d) : BodyOk P w K mg base NGF "least_fees" (defScope (top 39)) (defBody (top 39)) 69 (padG NGF ((aG cR cW cU d).map .is)) (Fe cR cF (lfV d.wy.1.1.length d.wy.2.1 d.k (d.amt.getD 0))) none := by
  intro f cdv Ar outer s H E fam
  have nd := scLF.nd
  have hv := h.wy.1
  have n1 := hv.rc.n1
  have n6 := hv.rc.n6
  refine ⟨none, ?_, fun _ h => nomatch h⟩
  refine b_expr (e_gf fam m.cr d.wy.1 (fun _ => rfl) (a_2 (vr 0) (vr 1)) hv) ?_
  refine b_expr (e_gf fam m.ck (d.wy.1.1, [d.k]) (fun _ => rfl) (a_2 (vr 0) (e_lst (a_1 (vr 2)) len1)) (by intro k hk; rw [List.mem_singleton.mp hk]; exact h.kn)) ?_
  refine b_st 4 (fun _ => nd) (e_fsum (d := d.wy) y (fun _ => rfl) (e_gf fam WO d.wy (fun _ => rfl) (a_2 (vr 0) (vr 1)) h.wy)) ?_
  refine b_lcN (ds := List.range d.wy.1.1.length) (it := ni) (f := fun o => Ra cR (d.amt.getD 0 - (d.wy.2.1 (d.k, o) : Rat))) 5 6 (fun _ => nd) (fun _ => rfl) (i_rng (fun _ => b.range) (e_kinds rw_ (fun _ => rfl) (vr 0)) (by omega)) (fun o ho => ?_) (by rw [List.length_range, sizeLine_eq]; omega) (fun i M h z => by subst z; cases h) ?_
  · have ho' := List.mem_range.mp ho
    exact e_rsub fam.blk r (e_gf fam.blk BG d.amt (fun _ => rfl) (a_1 (vr 3)) trivial) (e_rwhole fam.blk r (e_dget (f := dsP d.wy.2.1) fam.blk (d.k, o) (vr 4) (e_tup (a_2 (vr 2) (vr 6)) len2) (mem_kys.mpr ⟨h.kn, ho'⟩))) (h.sz.sz (by decide)) ((Q6.sum hv h.wy.2 h.kn ho').sz (by decide))
  · exact b_ret (e_mkS fam mf (lfV d.wy.1.1.length d.wy.2.1 d.k (d.amt.getD 0)) (fun _ => rfl) ff.glo (TyE.conv (vr 5) fun v G hp => Ls.sq (by unfold lfV; rw [List.map_map]; exact hp)) ⟨by unfold lfV; rw [List.length_map, List.length_range]; exact n1, by unfold lfV; rw [List.length_map, List.length_range]; exact n6⟩) OwnAt.none
/-! ### spread, is_only -/
abbrev NSP : List Str := ["worths", "rule", "first", "second", "sums"]
theorem scSP : FnScope NSP ["worths", "rule", "first", "second"] (defScope (top 40)) := ⟨rfl, rfl, rfl, by decide +kernel, rfl, by decide +kernel, by decide +kernel⟩
structure sSp (d : dWY × Nat × Nat) : Prop where
  wy : sWY d.1
  a : d.2.1 < d.1.1.1.length
  b : d.2.2 < d.1.1.1.length
abbrev spSP (cR cW cU : Addr) : Sp := SpD (fun d : dWY × Nat × Nat => [Wo cW d.1.1.1, Ru cU d.1.1.2, ni d.2.1, ni d.2.2]) sSp (fun d => Tp [Ra cR (-(d.1.2.1 (d.2.2, d.2.1) : Rat)), Ra cR (d.1.2.1 (d.2.1, d.2.2) : Rat)])
theorem body_sp (r : RaM P w K mg base cR) (y : YaF mg K cY) (m : GaM P w K mg base cR cF cW cU) (WO : Gf P w K mg base 69 "ways_of" (spWO cY cW cU)) (d : dWY × Nat × Nat) (h : sSp d) : BodyOk P w K mg base NSP "spread" (defScope (top 40)) (defBody (top 40)) 69 (padG NSP ([Wo cW d.1.1.1, Ru cU d.1.1.2, ni d.2.1, ni d.2.2].map .is)) (Tp [Ra cR (-(d.1.2.1 (d.2.2, d.2.1) : Rat)), Ra cR (d.1.2.1 (d.2.1, d.2.2) : Rat)]) none := by
  intro f cdv Ar outer s H E fam
  have nd := scSP.nd
  have hv := h.wy.1
  refine ⟨none, ?_, fun _ h => nomatch h⟩
  refine b_expr (e_gf fam m.cr d.1.1 (fun _ => rfl) (a_2 (vr 0) (vr 1)) hv) ?_
  refine b_expr (e_gf fam m.ck (d.1.1.1, [d.2.1, d.2.2]) (fun _ => rfl) (a_2 (vr 0) (e_lst (a_2 (vr 2) (vr 3)) len2)) (by
    intro k hk
    have hk : k = d.2.1 ∨ k = d.2.2 := by simpa using hk
    rcases hk with rfl | rfl
    · exact h.a
    · exact h.b)) ?_
  refine b_st 4 (fun _ => nd) (e_fsum (d := d.1) y (fun _ => rfl) (e_gf fam WO d.1 (fun _ => rfl) (a_2 (vr 0) (vr 1)) h.wy)) ?_
  exact b_ret (e_tup (a_2 (e_rneg fam r (e_rwhole fam r (e_dget (f := dsP d.1.2.1) fam (d.2.2, d.2.1) (vr 4) (e_tup (a_2 (vr 3) (vr 2)) len2) (mem_kys.mpr ⟨h.b, h.a⟩))) ((Q6.sum hv h.wy.2 h.b h.a).sz (by decide))) (e_rwhole fam r (e_dget (f := dsP d.1.2.1) fam (d.2.1, d.2.2) (vr 4) (e_tup (a_2 (vr 2) (vr 3)) len2) (mem_kys.mpr ⟨h.a, h.b⟩)))) len2) OwnAt.none
abbrev NIO : List Str := ["worths", "rule", "sums", "one", "other"]
theorem scIO : FnScope NIO ["worths", "rule"] (defScope (top 41)) := ⟨rfl, rfl, rfl, by decide +kernel, rfl, by decide +kernel, by decide +kernel⟩
def ioV (n : Nat) (D : Nat × Nat → Int) : Bool := (liesV n).all fun p => decide (D p + D (p.2, p.1) = 0)
abbrev spIO (cW cU : Addr) : Sp := SpD (fun d : dWY => aWR cW cU d.1) sWY (fun d => IsB (ioV d.1.1.length d.2.1))
theorem body_io (b : Fb mg) (rw_ : WoF mg K cW) (y : YaF mg K cY) (m : GaM P w K mg base cR cF cW cU) (WO : Gf P w K mg base 69 "ways_of" (spWO cY cW cU)) (d : dWY) (h : sWY d) : BodyOk P w K mg base NIO "is_only" (defScope (top 41)) (defBody (top 41)) 69 (padG NIO ((aWR cW cU d.1).map .is)) (IsB (ioV d.1.1.length d.2.1)) none := by
  intro f cdv Ar outer s H E fam
  have nd := scIO.nd
  have n6 := h.1.rc.n6
  refine ⟨none, ?_, fun _ h => nomatch h⟩
  refine b_st 2 (fun _ => nd) (e_fsum (d := d) y (fun _ => rfl) (e_gf fam WO d (fun _ => rfl) (a_2 (vr 0) (vr 1)) h)) ?_
  refine b_ret (TyE.eq (e_all (bs := (liesV d.1.1.length).map fun p => decide (d.2.1 p + d.2.1 (p.2, p.1) = 0)) (fun _ => rfl) (fun _ => b.all) (fun _ => rfl) (TyE.eq (e_lcP (ds := liesV d.1.1.length) (P1 := fun p => ni p.1) (P2 := fun p => ni p.2) (f := fun p => IsB (decide (d.2.1 p + d.2.1 (p.2, p.1) = 0))) 3 4 (by decide) (fun _ => rfl) (fun _ => nd) (fun _ => rfl)
    (i_list (fun _ => rfl) (e_gf fam m.li d.1.1.length (fun _ => rfl) (a_1 (e_kinds rw_ (fun _ => rfl) (vr 0))) n6)) (fun p hp => ?_) (by have := lies_len n6; rw [sizeLine_eq]; omega) (fun i M h => ?_) (fun p => g_pr 3 4 (fun _ => rfl) (fun _ => rfl) (fun _ => nd))) (by rw [List.map_map]; rfl))) ?_) OwnAt.none
  · have hp' := mem_lies.mp hp
    exact v_eq (e_add (e_dget (f := dsP d.2.1) fam.blk p (vr 2) (e_tup (a_2 (vr 3) (vr 4)) len2) (mem_kys.mpr ⟨hp'.1, hp'.2.1⟩)) (e_dget (f := dsP d.2.1) fam.blk (p.2, p.1) (vr 2) (e_tup (a_2 (vr 4) (vr 3)) len2) (mem_kys.mpr ⟨hp'.2.1, hp'.1⟩))) e_int
  · match i, h with
    | 0, h => cases h
    | 1, h => cases h
    | 2, h => cases h
    | 3, h => cases h
    | 4, h => cases h
    | i + 5, h => cases h
  · rw [List.all_map]
    rfl
end
end Tf
end
section
/-! Defs with keyword-only parameters. -/
namespace Ty
open PySem PySem.Spec PyProof.Rows L2
open Evl (Ex)
section
variable {K : PySem.W.Frag} {x qual : Str} {params : Arguments} {body : List Stmt} {scope : Scope} {kws : List (Str × V)} {f : Addr} {fd : FuncData} {ps : List Str}
theorem kb0 (F : FunD K x qual params body scope [] kws f fd) (n : Nat) (ks : List Str) (ms : List (Str × V)) (hk : kws ≠ []) (hms : ∀ q ∈ ms, q ∈ kws)
    (h : ∀ (D : Addr) (doc pm : Value) (an : Option Addr) (cdv ct : Value) (us mv ws : List Value), us.length = n → mv.length = ms.length → ws.length = ks.length →
      KwChain D ((ms.map (·.1)).zip mv) (bindArgs (PySem.W.fnOf x qual params body scope .none (.ref D) doc pm an cdv ct) ⟨us, ks.zip ws⟩) (ps.zip (us ++ (ws ++ mv)))) :
    ∃ mv : List Value, KBn K fd ps n ks (fun us ws => us ++ (ws ++ mv)) (fun vs zs => vs ++ (zs ++ ms.map (·.2))) := by
  obtain ⟨oc, od, dV, kV, doc, pm, an, cdv, ct, osl, rfl, lk, hcd, hD, hK⟩ := F.ex
  rcases hD with ⟨_, rfl⟩ | ⟨e, _⟩
  · rcases hK with e | ⟨D, rfl, hq⟩
    · exact absurd e hk
    · obtain ⟨mv, hl, rk, hmv⟩ := kwd_vals (ms := ms) fun q hq' => hq q (hms q hq')
      exact ⟨mv, fun s us ws Kin l1 l2 => BindsTo.of_looks fun M => KwChain.looks Kin hmv (h D doc pm an cdv ct us mv ws l1 hl l2), fun r1 r2 => r1.append (r2.append rk)⟩
  · exact absurd rfl e
end
section
variable {ι : Type} {X : ι → Cx} {Ga Gb Gc Gd : List Sl} {e e1 e2 : Expr} {es : List Expr} {Ps Qs : List Pd} {pos p k1 k2 : Pos} {x n1 n2 : Str} {Pr : Program} {w : World} {K : PySem.W.Frag} {mg : Str → Option Value} {base : Heap} {j k n : Nat} {D : Type} {A : D → List Pd} {S : D → Prop} {R : D → Pd} {P1 P2 : Pd} {ms : List V} {ks : List Str} {kws : List Keyword}
/-- a def of the module, called by n values and the keywords ks, in their order; ms: what lacks -/
structure Gk (Pr : Program) (w : World) (K : PySem.W.Frag) (mg : Str → Option Value) (base : Heap) (k : Nat) (x : Str) (n : Nat) (ks : List Str) (ms : List V) (sp : Sp) : Prop where
  ex : ∃ f fd ps mv, FnOk Pr w K mg base CX0 k f fd ps sp ∧ mg x = some (.ref f) ∧ PySem.W.keepIn K (.ref f) = true ∧ KBn K fd ps n ks (fun us ws => us ++ (ws ++ mv)) (fun vs zs => vs ++ (zs ++ ms))
theorem e_gk {tk : TA} (fam : Fam X Pr w K mg base j) (F : Gk Pr w K mg base k x n ks ms (SpD A S R)) (d : D) (hg : ∀ i, Gl (X i) x) (ha : TyA X Ga (e :: es) Ps Gb) (hk : ∀ i, PK (X i) kws tk)
    (ht : ∀ (q : Option Addr) (F : Addr → Prop) (σ : L2.St) (G H : Hp), SI q F Gb σ G H → ∀ Q : List V → Hp → Prop, (∀ xs G' H', Step q G H G' H' → SI q F Gc σ G' H' → AllP Qs xs G' → Q xs H') → tk σ H Q)
    (hA : ∀ vs zs G, AllP Ps vs G → AllP Qs zs G → AllP (A d) (vs ++ (zs ++ ms)) G) (hn : Ps.length = n) (hn2 : Qs.length = ks.length) (hs : S d) (hj : k ≤ j := by decide)
    (hall : ∀ i, (backToKw pos (keywordEach kws (X i).env)).all (·.1.isSome) = true := by intro i; rfl) (hks : ∀ i, (backToKw pos (keywordEach kws (X i).env)).filterMap (·.1) = ks := by intro i; rfl) (hdb : (x == ("__debug__" : Str)) = false := by decide)
    (he : ∀ i, starEach (e :: es) (X i).env = (false, eval e (X i).env) :: starEach es (X i).env := by intro i; rfl) (hpl : ∀ i, ((backTo pos (starEach (e :: es) (X i).env)).any (·.1) || (backToKw pos (keywordEach kws (X i).env)).any (·.1.isNone)) = false := by intro i; rfl) :
    TyE X Ga (.Call (.Name x p) (e :: es) kws pos) (R d) Gc := fun q F' σ G H I Q kk => by
  obtain ⟨f, fd, ps, mv, Fo, hm, kp, kb⟩ := F.ex
  refine ⟨tCallN n ks.length (SpD A S R) (fun vs zs => vs ++ (zs ++ ms)) E0 (uA X (e :: es)) tk, fun i => pe_callN (by rw [fam.prog i, fam.w i, fam.K i, fam.mg i, fam.base i]; exact Fo) ((fam.room i).mono hj) (hg i) (by rw [fam.mg i]; exact hm) (by rw [fam.K i]; exact kp) (by rw [fam.K i]; exact kb) pass0 (uA_pa i) (hk i) (hall i) (hks i) hdb (he i) (hpl i), ?_⟩
  refine ha q F' σ G H I _ fun vs G1 H1 t1 I1 p1 => ht q F' σ G1 H1 I1 _ fun zs G2 H2 t2 I2 p2 => ⟨p1.length.trans hn, p2.length.trans hn2, d, G2, hs, I2.sub, hA vs zs G2 (p1.mono t2.k) p2, fun v G3 H3 t3 r => kk v G3 H3 ((t1.trans t2).trans t3.any) (I2.pure t3) r⟩
theorem k_nil : (∀ i, PK (X i) [] tNil) ∧ ∀ (q : Option Addr) (F : Addr → Prop) (σ : L2.St) (G H : Hp), SI q F Ga σ G H → ∀ Q : List V → Hp → Prop, (∀ xs G' H', Step q G H G' H' → SI q F Ga σ G' H' → AllP [] xs G' → Q xs H') → tNil σ H Q :=
  ⟨fun _ => pk_nil, fun q F σ G H I Q k => k [] G H (Step.refl I.sub) I trivial⟩
/-- f(e, .., k = v) -/
theorem e_gk1 (fam : Fam X Pr w K mg base j) (F : Gk Pr w K mg base k x n [n1] ms (SpD A S R)) (d : D) (hg : ∀ i, Gl (X i) x) (ha : TyA X Ga (e :: es) Ps Gb) (h1 : TyE X Gb e1 P1 Gc) (hA : ∀ vs zs G, AllP Ps vs G → AllP [P1] zs G → AllP (A d) (vs ++ (zs ++ ms)) G) (hn : Ps.length = n) (hs : S d) (hj : k ≤ j := by decide)
    (hall : ∀ i, (backToKw pos (keywordEach [⟨some n1, e1, k1⟩] (X i).env)).all (·.1.isSome) = true := by intro i; rfl) (hks : ∀ i, (backToKw pos (keywordEach [⟨some n1, e1, k1⟩] (X i).env)).filterMap (·.1) = [n1] := by intro i; rfl) (hdb : (x == ("__debug__" : Str)) = false := by decide)
    (he : ∀ i, starEach (e :: es) (X i).env = (false, eval e (X i).env) :: starEach es (X i).env := by intro i; rfl) (hpl : ∀ i, ((backTo pos (starEach (e :: es) (X i).env)).any (·.1) || (backToKw pos (keywordEach [⟨some n1, e1, k1⟩] (X i).env)).any (·.1.isNone)) = false := by intro i; rfl) :
    TyE X Ga (.Call (.Name x p) (e :: es) [⟨some n1, e1, k1⟩] pos) (R d) Gc :=
  e_gk (tk := tCons (uE X e1) tNil) (Qs := [P1]) fam F d hg ha (fun i => pk_cons (uE_pe i) pk_nil) (fun q F' σ G H I Q kk => h1 q F' σ G H I _ fun v G1 H1 t1 I1 p1 => kk [v] G1 H1 t1 I1 ⟨p1, trivial⟩) hA hn rfl hs hj hall hks hdb he hpl
theorem e_gk2 (fam : Fam X Pr w K mg base j) (F : Gk Pr w K mg base k x n [n1, n2] ms (SpD A S R)) (d : D) (hg : ∀ i, Gl (X i) x) (ha : TyA X Ga (e :: es) Ps Gb) (h1 : TyE X Gb e1 P1 Gc) (h2 : TyE X Gc e2 P2 Gd) (hA : ∀ vs zs G, AllP Ps vs G → AllP [P1, P2] zs G → AllP (A d) (vs ++ (zs ++ ms)) G) (hn : Ps.length = n) (hs : S d) (hj : k ≤ j := by decide)
    (hall : ∀ i, (backToKw pos (keywordEach [⟨some n1, e1, k1⟩, ⟨some n2, e2, k2⟩] (X i).env)).all (·.1.isSome) = true := by intro i; rfl) (hks : ∀ i, (backToKw pos (keywordEach [⟨some n1, e1, k1⟩, ⟨some n2, e2, k2⟩] (X i).env)).filterMap (·.1) = [n1, n2] := by intro i; rfl) (hdb : (x == ("__debug__" : Str)) = false := by decide)
    (he : ∀ i, starEach (e :: es) (X i).env = (false, eval e (X i).env) :: starEach es (X i).env := by intro i; rfl) (hpl : ∀ i, ((backTo pos (starEach (e :: es) (X i).env)).any (·.1) || (backToKw pos (keywordEach [⟨some n1, e1, k1⟩, ⟨some n2, e2, k2⟩] (X i).env)).any (·.1.isNone)) = false := by intro i; rfl) :
    TyE X Ga (.Call (.Name x p) (e :: es) [⟨some n1, e1, k1⟩, ⟨some n2, e2, k2⟩] pos) (R d) Gd :=
  e_gk (tk := tCons (uE X e1) (tCons (uE X e2) tNil)) (Qs := [P1, P2]) fam F d hg ha (fun i => pk_cons (uE_pe i) (pk_cons (uE_pe i) pk_nil)) (fun q F' σ G H I Q kk => h1 q F' σ G H I _ fun v G1 H1 t1 I1 p1 => h2 q F' σ G1 H1 I1 _ fun u G2 H2 t2 I2 p2 => kk [v, u] G2 H2 (t1.trans t2) I2 ⟨P1.mono t2.k p1, p2, trivial⟩) hA hn rfl hs hj hall hks hdb he hpl
end
end Ty
end
section
/-! simple's levels; keyword calls. -/
namespace Tf
open PySem PySem.Spec PyProof.Rows L2 Ty
section
variable {P : Program} {w : World} {K : PySem.W.Frag} {mg : Str → Option Value} {base : Heap} {f : Addr} {fd : FuncData} {cR cF cW cU cY : Addr}
theorem mf_simple (bf : Fb mg) (RO : Mf P w K mg base 1 cY "round_sum" (spYr cY)) (F : FnP K "simple" "Ways.simple" (inClass (top 32) 3) f fd) (cl : Cls K cY) (hm : Meth K cY "simple" f) : ∀ N, N ≤ 64 → Mf P w K mg base (N + 1) cY "simple" (spYs cY N)
  | 0, _ => ⟨f, Ty.FnOk.r (fn_o F scYs (fun _ => rfl) fun d hd => (by
      have h1 := List.length_pos_iff.mpr hd.1.ne
      have h2 := hd.2
      omega)) (F.bindsN fun _ _ _ _ _ _ us hl => match us, hl with | [_, _], _ => rfl), cl, hm⟩
  | N + 1, hN => ⟨f, Ty.FnOk.r (fn_o F scYs (fun _ => rfl) fun d hd => body_ys bf RO (mf_simple bf RO F cl hm N (by omega)) (by omega) (by omega) d hd) (F.bindsN fun _ _ _ _ _ _ us hl => match us, hl with | [_, _], _ => rfl), cl, hm⟩
abbrev FnK (K : PySem.W.Frag) (x qual : Str) (st : Stmt) (f : Addr) (fd : FuncData) : Prop := FunD K x qual (defArgs st) (defBody st) (defScope st) [] [("kind", .int 0), ("amount", .non)] f fd
theorem gk1_gf {k : Nat} {sp : Sp} (F : FnK K "greatest_fees" "greatest_fees" (top 38) f fd) (Fo : FnOk P w K mg base CX0 k f fd ["worths", "rule", "kind", "amount"] sp) (hm : mg "greatest_fees" = some (.ref f)) : Gk P w K mg base k "greatest_fees" 2 ["kind"] [.non] sp := by
  obtain ⟨mv, kb⟩ := kb0 (ps := ["worths", "rule", "kind", "amount"]) F 2 ["kind"] [("amount", .non)] (by simp) (by simp) fun D doc pm an cdv ct us mv ws h1 h2 h3 => by
    match us, mv, ws, h1, h2, h3 with
    | [_, _], [_], [_], _, _, _ => exact ⟨_, _, _, _, _, _, rfl, rfl, rfl⟩
  exact ⟨f, fd, _, mv, Fo, hm, F.kp, kb⟩
theorem gk2_gf {k : Nat} {sp : Sp} (F : FnK K "greatest_fees" "greatest_fees" (top 38) f fd) (Fo : FnOk P w K mg base CX0 k f fd ["worths", "rule", "kind", "amount"] sp) (hm : mg "greatest_fees" = some (.ref f)) : Gk P w K mg base k "greatest_fees" 2 ["kind", "amount"] [] sp := by
  obtain ⟨mv, kb⟩ := kb0 (ps := ["worths", "rule", "kind", "amount"]) F 2 ["kind", "amount"] [] (by simp) (by simp) fun D doc pm an cdv ct us mv ws h1 h2 h3 => by
    match us, mv, ws, h1, h2, h3 with
    | [_, _], [], [_, _], _, _, _ => rfl
  exact ⟨f, fd, _, mv, Fo, hm, F.kp, kb⟩
theorem gf0_of {x qual : Str} {st : Stmt} {k : Nat} {sp : Sp} (hx : defArgs st = defArgs (top 38)) (F : FnK K x qual st f fd) (Fo : FnOk P w K mg base CX0 k f fd ["worths", "rule", "kind", "amount"] sp) (hm : mg x = some (.ref f)) : Gf P w K mg base k x (fun vs H Q E => sp (vs ++ [.int 0, .non]) H Q E) := by
  have F' : FunD K x qual (defArgs (top 38)) (defBody st) (defScope st) [] [("kind", .int 0), ("amount", .non)] f fd := hx ▸ F
  obtain ⟨ds, rd, hb⟩ := F'.binds0 (ps := ["worths", "rule", "kind", "amount"]) 2 (by simp) rfl fun D doc pm an cdv ct us ks h1 h2 => by
    match us, ks, h1, h2 with
    | [_, _], [_, _], _, _ => exact ⟨_, _, _, _, _, _, rfl, rfl, _, _, _, _, _, _, rfl, rfl, rfl⟩
  exact ⟨f, Fo.raw hb rd, hm, F.kp⟩
end
end Tf
end
section
/-! Numbers as texts. -/
namespace Tf
open PySem PySem.Spec PyProof.Rows L2 TL PySem.NumText
theorem numL_ne (n : Nat) : numL n ≠ [] := by
  by_cases h : n < 10
  · rw [numL_lt h]; exact fun z => nomatch z
  · rw [numL_step (by omega)]
    exact fun z => by simp at z
theorem numL_dig : ∀ n : Nat, ∀ c ∈ numL n, 48 ≤ c ∧ c ≤ 57 := by
  intro n
  induction n using Nat.strongRecOn with
  | _ n ih =>
    by_cases h : n < 10
    · rw [numL_lt h]
      intro c hc
      rw [List.mem_singleton.mp hc]; omega
    · rw [numL_step (by omega)]
      intro c hc
      rcases List.mem_append.mp hc with hc | hc
      · exact ih (n / 10) (by omega) c hc
      · rw [List.mem_singleton.mp hc]; omega
theorem numL_head : ∀ n : Nat, 0 < n → ∃ c r, numL n = c :: r ∧ c ≠ 48 := by
  intro n
  induction n using Nat.strongRecOn with
  | _ n ih =>
    intro h0
    by_cases h : n < 10
    · exact ⟨48 + n, [], numL_lt h, by omega⟩
    · obtain ⟨c, r, e, hc⟩ := ih (n / 10) (by omega) (by omega)
      exact ⟨c, r ++ [48 + n % 10], by rw [numL_step (by omega), e]; rfl, hc⟩
theorem numL_len : ∀ (k n : Nat), n < 10 ^ k → 0 < k → (numL n).length ≤ k
  | 0, _, _, h => absurd h (Nat.lt_irrefl 0)
  | k + 1, n, h, _ => by
    by_cases h1 : n < 10
    · rw [numL_lt h1]; exact Nat.le_add_left 1 k
    · have hk : 0 < k := by
        cases k with
        | zero => rw [Nat.pow_one] at h; omega
        | succ k => exact Nat.succ_pos k
      have := numL_len k (n / 10) (by rw [Nat.pow_succ] at h; omega) hk
      rw [numL_step (by omega), List.length_append, List.length_singleton]; omega
abbrev numT (n : Int) : Str := Str.ofString (toString n)
theorem numT_pos {n : Nat} : tl (numT (n : Int)) = numL n := tl_num n
theorem numT_neg {n : Nat} (h : 0 < n) : tl (numT (-(n : Int))) = 45 :: numL n := by
  obtain ⟨m, rfl⟩ : ∃ m, n = m + 1 := ⟨n - 1, by omega⟩
  have e : toString (-((m + 1 : Nat) : Int)) = "-" ++ toString ((m + 1 : Nat) : Int) := rfl
  show (Str.ofString (toString (-((m + 1 : Nat) : Int)))).cps.toList = _
  rw [e, signs_ofString, String.toList_append, List.map_append]
  have := numT_pos (n := m + 1)
  have h2 : (Str.ofString (toString ((m + 1 : Nat) : Int))).cps.toList = numL (m + 1) := this
  rw [signs_ofString] at h2
  rw [h2]
  rfl
end Tf
namespace Tf
open PySem PySem.Spec PyProof.Rows L2 TL PySem.NumText
theorem numT_cases (n : Int) : (∃ m : Nat, n = (m : Int) ∧ tl (numT n) = numL m) ∨ ∃ m : Nat, 0 < m ∧ n = -(m : Int) ∧ tl (numT n) = 45 :: numL m := by
  rcases Int.lt_or_le n 0 with h | h
  · refine .inr ⟨n.natAbs, by omega, by omega, ?_⟩
    have e : n = -((n.natAbs : Nat) : Int) := by omega
    rw [e]
    have := numT_neg (n := n.natAbs) (by omega)
    rw [Int.natAbs_neg, Int.natAbs_natCast]
    exact this
  · refine .inl ⟨n.toNat, by omega, ?_⟩
    have e : n = ((n.toNat : Nat) : Int) := by omega
    rw [e]
    rw [Int.toNat_natCast]
    exact numT_pos
theorem numT_sign {n : Int} : ∀ c ∈ tl (numT n), c = 45 ∨ (48 ≤ c ∧ c ≤ 57) := fun c hc => by
  rcases numT_cases n with ⟨m, _, e⟩ | ⟨m, _, _, e⟩
  · rw [e] at hc; exact .inr (numL_dig m c hc)
  · rw [e] at hc
    rcases List.mem_cons.mp hc with h | h
    · exact .inl h
    · exact .inr (numL_dig m c h)
theorem numT_len {n : Int} {k : Nat} (h : n.natAbs < 10 ^ k) (hk : 0 < k) : (numT n).length ≤ k + 1 := by
  have e : (numT n).length = (tl (numT n)).length := by show (numT n).cps.size = _; rw [Array.length_toList]
  rw [e]
  rcases numT_cases n with ⟨m, rfl, e⟩ | ⟨m, _, rfl, e⟩
  · rw [e]
    rw [Int.natAbs_natCast] at h
    have := numL_len k m h hk
    omega
  · rw [e, List.length_cons]
    rw [Int.natAbs_neg, Int.natAbs_natCast] at h
    have := numL_len k m h hk
    omega
theorem numT_read {n : Int} (h : n.natAbs < 10 ^ 600) : PySem.intText? (numT n) = some n ∧ (numT n).length ≤ 640 := by
  have hl := numT_len h (by decide)
  refine ⟨?_, by omega⟩
  rcases numT_cases n with ⟨m, em, e⟩ | ⟨m, hm, em, e⟩
  · have hd : AllDigits (numT n).cps.toList := fun c hc => by
      have hc : c ∈ tl (numT n) := hc
      rw [e] at hc; exact numL_dig m c hc
    have r := intText_digits hd (by show tl (numT n) ≠ []; rw [e]; exact numL_ne m) (by omega)
    rw [r]
    show some (((digitsVal (tl (numT n)) : Nat) : Int)) = some n
    rw [e]
    have : digitsVal (numL m) = m := PySem.W.KIN.val_back m
    rw [this, em]
  · have r := intText_neg (x := numT n) (cs := numL m) e (numL_dig m) (numL_ne m) (by omega)
    rw [r]
    have : digitsVal (numL m) = m := PySem.W.KIN.val_back m
    rw [this, em]
end Tf
end
section
/-! Texts. -/
namespace Ty
open PySem PySem.Spec PyProof.Rows L2
open Evl (Ex)
section
variable {ι : Type} {X : ι → Cx} {Ga Gb Gc : List Sl} {a c e o tg : Expr} {pos apos p : Pos} {K : PySem.W.Frag} {z y : Str} {ys : List Str}
abbrev stP (z : Str) : Pd := Is (.str z)
abbrev sgP (c : Nat) : Pd := Is (.str ⟨#[c]⟩)
/-- for x in text -/
theorem i_str (h : TyE X Ga e (stP z) Gb) : TyI X Ga tg e (z.cps.toList.map sgP) Gb := fun q F σ G H I R k => by
  refine ⟨iStr (uE X e), fun i => pi_str (uE_pe i), h q F σ G H I _ fun v G1 H1 t1 I1 p1 => ⟨z, p1, k _ G1 H1 t1 I1 ⟨fun i G H _ _ hl => ?_, fun G H _ _ => ?_, fun i P G H x H' e1 e2 hP y => ?_⟩⟩⟩
  · have : i < z.cps.size := by simpa using hl
    exact this
  · show z.cps.size ≤ _
    simp
  · obtain ⟨rfl, c, hc, rfl⟩ := y
    refine ⟨G, Step.refl e2, ?_⟩
    rw [List.getElem?_map, Array.getElem?_toList, hc] at hP
    cases hP
    rfl
/-- sign in text -/
theorem v_sgIn {n : Nat} (ha : TyE X Ga a (sgP n) Gb) (hc : TyE X Gb c (stP z) Gc) (hm : behindInMarks .In c = false := by first | exact nomark _ | rfl) : TyE X Ga (.Compare a [.In] [c] pos) (IsB (decide (n ∈ z.cps.toList))) Gc :=
  e_cmp (fun _ => op_in_sign) ha hc (fun x y G H Q e p1 p2 k => ⟨n, z, p1, p2, k _ G H (Step.refl e) rfl⟩) hm
theorem strs_all {G : Hp} : ∀ {ys : List Str} {xs : List V}, AllP (ys.map stP) xs G → xs = ys.map V.str
  | [], [], _ => rfl
  | y :: ys, x :: xs, h => by
    obtain ⟨h1, h2⟩ := h
    rw [List.map_cons, ← strs_all h2]
    exact congrArg (· :: xs) h1
  | [], _ :: _, h => h.elim
  | _ :: _, [], h => h.elim
theorem strs_mk {G : Hp} : ∀ {ys : List Str}, AllP (ys.map stP) (ys.map V.str) G
  | [] => trivial
  | y :: ys => ⟨rfl, strs_mk⟩
/-- t.split(y) -/
theorem e_split (ho : TyE X Ga o (stP z) Gb) (he : TyE X Gb e (stP y) Gc) (hy : (y.length == 0) = false) (hz : z.length + 2 ≤ sizeLine) (hs : ∀ i, starEach [e] (X i).env = [(false, eval e (X i).env)] := by intro i; rfl) (hb : ∀ i, attributeBase o "split" (X i).env (eval o (X i).env) = eval o (X i).env := by intro i; rfl) (hl : (apos.endLine == pos.line) = true := by rfl) :
    TyE X Ga (.Call (.Attribute o "split" apos) [e] [] pos) (Ls ((Txt.split z y).map stP)) Gc := fun q F σ G H I Q k => by
  refine ⟨_, fun i => pe_split (uE_pe i) (uE_pe i) (hs i) (hb i) hl, ho q F σ G H I _ fun v G1 H1 t1 I1 p1 => ⟨⟨z, p1⟩, he q F σ G1 H1 I1 _ fun u G2 H2 t2 I2 p2 => ⟨z, y, p1, by rw [show u = .str y from p2], hy, hz, fun p hp => ?_⟩⟩⟩
  have t3 : Step none G2 H2 (upd G2 p (.lst ((Txt.split z y).map V.str))) (upd H2 p (.lst ((Txt.split z y).map V.str))) := Step.new I2.sub hp
  exact k _ _ _ ((t1.trans t2).trans t3.any) (I2.pure t3) ⟨p, _, rfl, upd_same, strs_mk⟩
/-- y.join(l) -/
theorem e_join (hK : ∀ i, (X i).K = K) (ho : TyE X Ga o (stP y) Gb) (he : TyE X Gb e (Ls (ys.map stP)) Gc) (hz : (ys.map (·.length)).sum + ys.length * y.length ≤ 16777216) (hs : ∀ i, starEach [e] (X i).env = [(false, eval e (X i).env)] := by intro i; rfl) (hb : ∀ i, attributeBase o "join" (X i).env (eval o (X i).env) = eval o (X i).env := by intro i; rfl) (hl : (apos.endLine == pos.line) = true := by rfl) :
    TyE X Ga (.Call (.Attribute o "join" apos) [e] [] pos) (stP (Txt.join y ys)) Gc := fun q F σ G H I Q k => by
  refine ⟨tM1 (fun x xs H Q => ∃ a p, ∃ ys : List Str, x = .str a ∧ xs = [.ref p] ∧ (SqL K H p (ys.map V.str) ∨ SqT K H p (ys.map V.str)) ∧ (ys.map (·.length)).sum + ys.length * a.length ≤ 16777216 ∧ Q (.str (Txt.join a ys)) H) (uE X o) (uE X e), fun i => by rw [← hK i]; exact pe_join (uE_pe i) (uE_pe i) (hs i) (hb i) hl, ho q F σ G H I _ fun v G1 H1 t1 I1 p1 => ⟨⟨y, p1⟩, he q F σ G1 H1 I1 _ fun u G2 H2 t2 I2 p2 => ?_⟩⟩
  obtain ⟨b, xs, rfl, hb, hx⟩ := p2
  have := strs_all hx
  subst this
  exact ⟨y, b, ys, p1, rfl, .inl (SqL.of (I2.sub _ _ hb)), hz, k _ G2 H2 (t1.trans t2) I2 rfl⟩
end
end Ty
end
section
/-! is_count, is_top. -/
namespace Tf
open PySem PySem.Spec PyProof.Rows L2 Ty TL
theorem str_eq {a b : Str} (h : tl a = tl b) : a = b := Str.ext' (Array.toList_inj.mp h)
theorem str_ne {a b : Str} (h : tl a ≠ tl b) : decide (a = b) = false := decide_eq_false fun z => h (by rw [z])
theorem str_len {a : Str} : a.length = (tl a).length := by show a.cps.size = _; rw [Array.length_toList]
theorem tl_cut (z : Str) (lo hi : Option Int) : tl (cutS z lo hi) = cutL (tl z) lo hi := by
  unfold cutS cutL
  rw [str_len]
section
variable {P : Program} {w : World} {K : PySem.W.Frag} {mg : Str → Option Value} {base : Heap} {f : Addr} {fd : FuncData} {cR cF cW cU cY : Addr}
abbrev NIC : List Str := ["word", "sign"]
theorem scIC : FnScope NIC ["word"] (defScope (top 12)) := ⟨rfl, rfl, rfl, by decide +kernel, rfl, by decide +kernel, by decide +kernel⟩
theorem scIT2 : FnScope ["word"] ["word"] (defScope (top 13)) := ⟨rfl, rfl, rfl, by decide +kernel, rfl, by decide +kernel, by decide +kernel⟩
abbrev sIC (d : Str × Nat) : Prop := tl d.1 = numL d.2 ∧ d.1.length ≤ 1000
abbrev spIC : Sp := SpD (fun d : Str × Nat => [stP d.1]) sIC (fun _ => IsB true)
abbrev spTop : Sp := SpD (fun n : Int => [stP (numT n)]) (fun n => n.natAbs < 10 ^ 600) (fun _ => IsB true)
theorem body_ic (b : Fb mg) (c : Fc mg) (d : Str × Nat) (h : sIC d) : BodyOk P w K mg base NIC "is_count" (defScope (top 12)) (defBody (top 12)) 0 (padG NIC ([stP d.1].map .is)) (IsB true) none := by
  intro f cdv Ar outer s H E fam
  have nd := scIC.nd
  have hz : d.1.length ≤ sizeLine := by have := h.2; rw [sizeLine_eq]; omega
  refine ⟨none, ?_, fun _ h => nomatch h⟩
  have hd : ((tl d.1).map fun x => decide (x ∈ tl "0123456789")).all id = true := by
    rw [List.all_map, List.all_eq_true]
    intro x hx
    rw [h.1] at hx
    have := numL_dig d.2 x hx
    show decide (x ∈ tl "0123456789") = true
    have e : tl "0123456789" = [48, 49, 50, 51, 52, 53, 54, 55, 56, 57] := by decide
    rw [e]
    refine decide_eq_true ?_
    simp; omega
  have h0 : decide (d.1 = ("" : Str)) = false := str_ne (by rw [h.1]; exact numL_ne d.2)
  refine b_ifr (b := false) (TyT.eq (t_w (w_or (t_eqS (vr 0) e_str) (fun _ => w_or1 (t_not (t_val (e_all (bs := (tl d.1).map fun x => decide (x ∈ tl "0123456789")) (fun _ => rfl) (fun _ => b.all) (fun _ => rfl) (TyE.eq (e_lcN (ds := tl d.1) (it := sgP) (f := fun x => IsB (decide (x ∈ tl "0123456789"))) 1 (fun _ => nd) (fun _ => rfl) (i_str (vr 0)) (fun x _ => v_sgIn (vr 1) (e_gc (fun _ => c.dig))) (by rw [← str_len]; exact hz) (fun i M h z => by subst z; cases h)) (by rw [List.map_map]; rfl)))))) (fun _ => GaLe.refl _))) (by rw [h0, hd]; rfl)) (fun h => nomatch h) (fun _ => ?_)
  obtain ⟨x, r, e⟩ : ∃ x r, numL d.2 = x :: r := by
    cases e : numL d.2 with
    | nil => exact absurd e (numL_ne d.2)
    | cons x r => exact ⟨x, r, rfl⟩
  refine b_ret (TyE.eq (e_or (v_neS (e_ixS (n := x) (fun _ => rfl) hz (vr 0) e_int (Ty.atI_nat (k := 0) (by show (tl d.1)[0]? = _; rw [h.1, e]; rfl))) e_str) (fun _ => e_one (v_eqS (vr 0) e_str)) (fun _ => GaLe.refl _)) ?_) OwnAt.none
  have : (!decide ((⟨#[x]⟩ : Str) = "0") || decide (d.1 = ("0" : Str))) = true := by
    by_cases hm : d.2 = 0
    · have e1 : d.1 = ("0" : Str) := str_eq (by rw [h.1, hm]; decide)
      rw [decide_eq_true e1, Bool.or_true]
    · obtain ⟨x', r', e', hx⟩ := numL_head d.2 (by omega)
      have : x' = x := by rw [e] at e'; injection e' with a; exact a.symm
      subst this
      have : decide ((⟨#[x']⟩ : Str) = "0") = false := str_ne (fun z => hx (by have z : [x'] = [48] := z; injection z))
      rw [this]; rfl
  rw [this]
theorem body_top (IC : Gf P w K mg base 1 "is_count" spIC) (n : Int) (h : n.natAbs < 10 ^ 600) : BodyOk P w K mg base ["word"] "is_top" (defScope (top 13)) (defBody (top 13)) 1 (padG ["word"] ([stP (numT n)].map .is)) (IsB true) none := by
  intro f cdv Ar outer s H E fam
  have hl := (numT_read h).2
  have hz : (numT n).length ≤ sizeLine := by rw [sizeLine_eq]; omega
  have c1 : tl (cutS (numT n) none (some (1 : Int))) = (tl (numT n)).take 1 := by rw [tl_cut]; exact cut_to _ 1
  have c2 : tl (cutS (numT n) (some (1 : Int)) none) = (tl (numT n)).drop 1 := by rw [tl_cut]; exact cut_from _ 1
  refine ⟨none, ?_, fun _ h => nomatch h⟩
  rcases numT_cases n with ⟨m, _, e⟩ | ⟨m, hm, _, e⟩
  · obtain ⟨x, r, e2⟩ : ∃ x r, numL m = x :: r := by
      cases e : numL m with
      | nil => exact absurd e (numL_ne m)
      | cons x r => exact ⟨x, r, rfl⟩
    have hx := numL_dig m x (by rw [e2]; exact List.mem_cons_self)
    refine b_ifr (b := false) (TyT.eq (t_eqS (e_slS hz (vr 0) o_non (o_som e_int)) e_str) (str_ne ?_)) (fun h => nomatch h) (fun _ => b_ret (e_gf fam IC (numT n, m) (fun _ => rfl) (a_1 (vr 0)) ⟨e, by show (numT n).length ≤ 1000; omega⟩) OwnAt.none)
    rw [c1, e, e2]
    intro z
    have z : [x] = [45] := z
    injection z with z
    omega
  · refine b_ifr (b := true) (TyT.eq (t_eqS (e_slS hz (vr 0) o_non (o_som e_int)) e_str) (decide_eq_true (str_eq ?_))) (fun _ => b_ret (TyE.eq (e_and (e_gf fam IC (cutS (numT n) (some (1 : Int)) none, m) (fun _ => rfl) (a_1 (e_slS hz (vr 0) (o_som e_int) o_non)) ⟨by rw [c2, e]; rfl, ?_⟩) (fun _ => e_one (v_neS (vr 0) e_str)) (fun h => nomatch h)) ?_) OwnAt.none) (fun h => nomatch h)
    · rw [c1, e]; rfl
    · show (cutS (numT n) (some (1 : Int)) none).length ≤ 1000
      rw [str_len, c2, List.length_drop, ← str_len]; omega
    · have : decide (numT n = ("-0" : Str)) = false := str_ne (by
        rw [e]
        intro z
        have z : 45 :: numL m = [45, 48] := z
        injection z with _ z
        obtain ⟨x, r, e2, hx⟩ := numL_head m hm
        rw [e2] at z
        injection z with z
        exact hx z)
      rw [this]; rfl
end
end Tf
end
section
/-! Ratio's texts. -/
namespace Ty
open PySem PySem.Spec PyProof.Rows L2
theorem e_f3 {ι : Type} {X : ι → Cx} {Ga Gb Gc : List Sl} {e1 e2 : Expr} {pos p1 p2 p3 : Pos} {i j : Int} {z : Str} {k : Nat} (h1 : TyE X Ga e1 (IsI i) Gb) (h2 : TyE X Gb e2 (IsI j) Gc) (l1 : i.natAbs.log2 < 1920) (l2 : j.natAbs.log2 < 1920) (hz : (Str.empty ++ Str.ofString (toString i)).length ≤ sizeLine) (hz2 : (Str.empty ++ Str.ofString (toString i) ++ z).length ≤ sizeLine) (hz3 : (Str.empty ++ Str.ofString (toString i) ++ z ++ Str.ofString (toString j)).length ≤ sizeLine) :
    TyE X Ga (.JoinedStr [.FormattedValue e1 (-1) none p1, .Constant (.str z) k p2, .FormattedValue e2 (-1) none p3] pos) (stP (Str.empty ++ Str.ofString (toString i) ++ z ++ Str.ofString (toString j))) Gc := fun q F σ G H I Q kk => by
  refine ⟨_, fun l => pe_joined (.cons (pe_fmt (uE_pe l)) (.cons pe_str (.cons (pe_fmt (uE_pe l)) .nil))), h1 q F σ G H I _ fun v G1 H1 t1 I1 p1 => .inr ⟨i, p1, l1, Str.ofString (toString i), rfl, hz, z, rfl, hz2, h2 q F σ G1 H1 I1 _ fun u G2 H2 t2 I2 p2 => .inr ⟨j, p2, l2, Str.ofString (toString j), rfl, hz3, kk _ G2 H2 (t1.trans t2) I2 rfl⟩⟩⟩
end Ty
namespace Tf
open PySem PySem.Spec PyProof.Rows L2 Ty TL
def ratT (q : Rat) : Str := if q.den = 1 then numT q.num else Str.empty ++ numT q.num ++ "/" ++ numT (q.den : Nat)
theorem num_nosep {n : Int} {c : Nat} (h : c < 45 ∨ 57 < c ∨ c = 46 ∨ c = 47) : c ∉ tl (numT n) := fun z => by
  have := numT_sign c z
  omega
theorem split_one {a : Str} (h : 47 ∉ tl a) : Txt.split a "/" = [a] := by
  have := split_join (y := "/") (s := 47) (S := []) (by decide) (by decide +kernel) (parts := [a]) (by simp) (fun p hp => by rw [List.mem_singleton.mp hp]; exact h)
  rw [join_eq] at this
  exact this
theorem split_two {a b : Str} (h : 47 ∉ tl a) (h2 : 47 ∉ tl b) : Txt.split (Str.empty ++ a ++ "/" ++ b) "/" = [a, b] := by
  have := split_join (y := "/") (s := 47) (S := []) (by decide) (by decide +kernel) (parts := [a, b]) (by simp) (fun p hp => by
    rcases List.mem_cons.mp hp with rfl | hp
    · exact h
    · rw [List.mem_singleton.mp hp]; exact h2)
  rw [join_eq] at this
  have e : Str.join "/" [a, b] = Str.empty ++ a ++ "/" ++ b := str_eq (by
    show tl (a ++ "/" ++ b) = _
    simp only [tl_append]
    rfl)
  rw [e] at this
  exact this
theorem p600 : 2 ^ 250 < 10 ^ 600 := by
  have h1 : (10 : Nat) ^ 600 = 10 ^ 100 * 10 ^ 500 := by rw [← Nat.pow_add]
  have h2 : 0 < 10 ^ 500 := Nat.pow_pos (by decide)
  have h3 : 2 ^ 250 < 10 ^ 100 := by decide
  rw [h1]
  exact Nat.lt_of_lt_of_le h3 (Nat.le_mul_of_pos_right _ h2)
theorem len80 {n : Int} (h : n.natAbs < 2 ^ 250) : (numT n).length ≤ 101 := numT_len (Nat.lt_trans h (by decide)) (by decide)
theorem Sz.lg {q : Rat} (h : Sz q) : q.num.natAbs.log2 < 1920 ∧ ((q.den : Nat) : Int).natAbs.log2 < 1920 := ⟨Nat.lt_trans (log2_lt (by decide) h.n) (by decide), Nat.lt_trans (log2_lt (by decide) h.d) (by decide)⟩
theorem ratT_len {q : Rat} (h : Sz q) : (ratT q).length ≤ 203 := by
  have h1 := len80 h.n
  have h2 := len80 h.d
  unfold ratT
  split
  · omega
  · rw [str_len] at *
    simp only [tl_append, List.length_append]
    have e1 : (tl Str.empty).length = 0 := rfl
    have e2 : (tl "/").length = 1 := by decide
    rw [← str_len] at h2
    have := str_len (a := numT ((q.den : Nat) : Int))
    omega
section
variable {P : Program} {w : World} {K : PySem.W.Frag} {mg : Str → Option Value} {base : Heap} {f : Addr} {fd : FuncData} {cR cF cW cU cY : Addr}
theorem scRS9 : FnScope ["self"] ["self"] (defScope (inClass (top 14) 9)) := ⟨rfl, rfl, rfl, by decide +kernel, rfl, by decide +kernel, by decide +kernel⟩
abbrev spRS9 (cR : Addr) : Sp := SpD (fun q : Rat => [Ra cR q]) Sz (fun q => stP (ratT q))
theorem body_rs9 (b : Fb mg) (r : RaF mg K cR) (q : Rat) (h : Sz q) : BodyOk P w K mg base ["self"] "Ratio.__str__" (defScope (inClass (top 14) 9)) (defBody (inClass (top 14) 9)) 0 (padG ["self"] ([Ra cR q].map .is)) (stP (ratT q)) none := by
  intro f cdv Ar outer s H E fam
  refine ⟨none, ?_, fun _ h => nomatch h⟩
  have l1 := len80 h.n
  have l2 := len80 h.d
  refine b_ifr (t_eq (e_bot r (fun _ => rfl) (vr 0)) e_int) (fun hb => ?_) (fun hb => ?_)
  · have hd : q.den = 1 := by have := of_decide_eq_true hb; omega
    exact b_ret (TyE.eq (e_strI (fun _ => b.str) h.lg.1 (e_top r (fun _ => rfl) (vr 0))) (by unfold ratT; rw [if_pos hd])) OwnAt.none
  · have hd : ¬ q.den = 1 := by have := of_decide_eq_false hb; omega
    have e1 : (tl Str.empty).length = 0 := rfl
    have e2 : (tl "/").length = 1 := by decide
    have e3 : (tl (Str.ofString (toString q.num))).length ≤ 101 := by rw [← str_len]; exact l1
    have e4 : (tl (Str.ofString (toString ((q.den : Nat) : Int)))).length ≤ 101 := by rw [← str_len]; exact l2
    refine b_ret (TyE.eq (e_f3 (e_top r (fun _ => rfl) (vr 0)) (e_bot r (fun _ => rfl) (vr 0)) h.lg.1 h.lg.2 ?_ ?_ ?_) (by unfold ratT; rw [if_neg hd])) OwnAt.none
    · rw [sizeLine_eq, str_len]; simp only [tl_append, List.length_append]; omega
    · rw [sizeLine_eq, str_len]; simp only [tl_append, List.length_append]; omega
    · rw [sizeLine_eq, str_len]; simp only [tl_append, List.length_append]; omega
end
end Tf
end
section
/-! Ratio.read. -/
namespace Tf
open PySem PySem.Spec PyProof.Rows L2 Ty TL
section
variable {P : Program} {w : World} {K : PySem.W.Frag} {mg : Str → Option Value} {base : Heap} {f : Addr} {fd : FuncData} {cR cF cW cU cY : Addr}
abbrev NRR : List Str := ["cls", "text", "words"]
theorem scRR : FnScope NRR ["cls", "text"] (defScope (inClass (top 14) 2)) := ⟨rfl, rfl, rfl, by decide +kernel, rfl, by decide +kernel, by decide +kernel⟩
abbrev spRR (cR : Addr) : Sp := SpD (fun q : Rat => [Is (.ref cR), stP (ratT q)]) Sz (fun q => Ra cR q)
theorem body_rr (b : Fb mg) (IT : Gf P w K mg base 2 "is_top" spTop) (IC : Gf P w K mg base 1 "is_count" spIC) (m : Mkf P w K mg base 2 cR (spInit cR)) (q : Rat) (h : Sz q) : BodyOk P w K mg base NRR "Ratio.read" (defScope (inClass (top 14) 2)) (defBody (inClass (top 14) 2)) 3 (padG NRR ([Is (.ref cR), stP (ratT q)].map .is)) (Ra cR q) none := by
  intro f cdv Ar outer s H E fam
  have nd := scRR.nd
  refine ⟨none, ?_, fun _ h => nomatch h⟩
  have hl := ratT_len h
  have n1 : q.num.natAbs < 10 ^ 600 := Nat.lt_trans h.n p600
  have n2 : ((q.den : Nat) : Int).natAbs < 10 ^ 600 := Nat.lt_trans h.d p600
  have ns : ∀ n : Int, 47 ∉ tl (numT n) := fun n => num_nosep (.inr (.inr (.inr rfl)))
  have eq0 : mkRat q.num q.den = q := Rat.mkRat_self q
  have hden : 0 < q.den ∧ q.den < 2 ^ 1300 := ⟨q.den_pos, Nat.lt_of_lt_of_le h.2 (Nat.pow_le_pow_right (by decide) (by decide))⟩
  by_cases hd : q.den = 1
  · have e1 : Txt.split (ratT q) "/" = [numT q.num] := by unfold ratT; rw [if_pos hd]; exact split_one (ns _)
    refine b_st 2 (fun _ => nd) (P := Ls [stP (numT q.num)]) (TyE.eq (e_split (vr 1) e_str (by decide) (by rw [sizeLine_eq]; omega)) (by rw [e1]; rfl)) ?_
    refine b_ifr (b := false) (TyT.eq (t_w (w_or (t_gt (e_lenL (fun _ => b.len) (fun _ => rfl) (vr 2)) e_int) (fun _ => w_or1 (t_not (t_val (e_gf fam IT q.num (fun _ => rfl) (a_1 (e_ixL (Ps := [stP (numT q.num)]) (fun _ => rfl) (vr 2) e_int (Ty.atI_nat (k := 0) rfl))) n1)))) (fun _ => GaLe.refl _))) rfl) (fun h => nomatch h) (fun _ => ?_)
    refine b_ifr (b := true) (TyT.eq (t_eq (e_lenL (fun _ => b.len) (fun _ => rfl) (vr 2)) e_int) rfl) (fun _ => ?_) (fun h => nomatch h)
    refine b_ret (TyE.eq (e_mkL fam m (q.num, 1) 0 (fun _ => rfl) (fun _ => Or.inl rfl) rfl (a_2 (e_intS (fun _ => b.int) (numT_read n1).1 (numT_read n1).2 (e_ixL (Ps := [stP (numT q.num)]) (fun _ => rfl) (vr 2) e_int (Ty.atI_nat (k := 0) rfl))) e_int) ⟨Nat.one_pos, Nat.one_lt_two_pow (by decide)⟩) ?_) OwnAt.none
    show Ra cR (mkRat q.num 1) = _
    rw [← hd, eq0]
  · have e1 : Txt.split (ratT q) "/" = [numT q.num, numT ((q.den : Nat) : Int)] := by unfold ratT; rw [if_neg hd]; exact split_two (ns _) (ns _)
    have hc : sIC (numT ((q.den : Nat) : Int), q.den) := ⟨numT_pos, by have := len80 h.d; show (numT ((q.den : Nat) : Int)).length ≤ 1000; omega⟩
    have hne : decide (numT ((q.den : Nat) : Int) = ("0" : Str)) = false := str_ne (by
      rw [numT_pos]
      obtain ⟨x, r, e2, hx⟩ := numL_head q.den q.den_pos
      rw [e2]
      intro z
      have z : x :: r = [48] := z
      injection z with z
      exact hx z)
    refine b_st 2 (fun _ => nd) (P := Ls [stP (numT q.num), stP (numT ((q.den : Nat) : Int))]) (TyE.eq (e_split (vr 1) e_str (by decide) (by rw [sizeLine_eq]; omega)) (by rw [e1]; rfl)) ?_
    refine b_ifr (b := false) (TyT.eq (t_w (w_or (t_gt (e_lenL (fun _ => b.len) (fun _ => rfl) (vr 2)) e_int) (fun _ => w_or1 (t_not (t_val (e_gf fam IT q.num (fun _ => rfl) (a_1 (e_ixL (Ps := [stP (numT q.num), stP (numT ((q.den : Nat) : Int))]) (fun _ => rfl) (vr 2) e_int (Ty.atI_nat (k := 0) rfl))) n1)))) (fun _ => GaLe.refl _))) rfl) (fun h => nomatch h) (fun _ => ?_)
    refine b_ifr (b := false) (TyT.eq (t_eq (e_lenL (fun _ => b.len) (fun _ => rfl) (vr 2)) e_int) rfl) (fun h => nomatch h) (fun _ => ?_)
    refine b_ifr (b := false) (TyT.eq (t_w (w_or (t_not (t_val (e_gf fam IC (numT ((q.den : Nat) : Int), q.den) (fun _ => rfl) (a_1 (e_ixL (Ps := [stP (numT q.num), stP (numT ((q.den : Nat) : Int))]) (fun _ => rfl) (vr 2) e_int (Ty.atI_nat (k := 1) rfl))) hc))) (fun _ => w_or1 (t_eqS (e_ixL (Ps := [stP (numT q.num), stP (numT ((q.den : Nat) : Int))]) (fun _ => rfl) (vr 2) e_int (Ty.atI_nat (k := 1) rfl)) e_str)) (fun _ => GaLe.refl _))) (by rw [hne]; rfl)) (fun h => nomatch h) (fun _ => ?_)
    refine b_ret (TyE.eq (e_mkL fam m (q.num, q.den) 0 (fun _ => rfl) (fun _ => Or.inl rfl) rfl (a_2 (e_intS (fun _ => b.int) (numT_read n1).1 (numT_read n1).2 (e_ixL (Ps := [stP (numT q.num), stP (numT ((q.den : Nat) : Int))]) (fun _ => rfl) (vr 2) e_int (Ty.atI_nat (k := 0) rfl))) (e_intS (fun _ => b.int) (numT_read n2).1 (numT_read n2).2 (e_ixL (Ps := [stP (numT q.num), stP (numT ((q.den : Nat) : Int))]) (fun _ => rfl) (vr 2) e_int (Ty.atI_nat (k := 1) rfl)))) hden) ?_) OwnAt.none
    show Ra cR (mkRat q.num q.den) = _
    rw [eq0]
end
end Tf
end
section
/-! Rule.read. -/
namespace Tf
open PySem PySem.Spec PyProof.Rows L2 Ty TL
def ruT (t : List Nat) : Str := Txt.join " " (t.map fun n : Nat => numT (n : Int))
theorem sp_words {ns : List Int} (h : ns ≠ []) : Txt.split (Txt.join " " (ns.map numT)) " " = ns.map numT :=
  split_join (y := " ") (s := 32) (S := []) (by decide) (by decide +kernel) (by simpa using h) fun p hp => by
    obtain ⟨n, _, rfl⟩ := List.mem_map.mp hp
    exact num_nosep (.inl (by decide))
theorem joinL_len {y : List Nat} {B : Nat} : ∀ {xs : List (List Nat)}, (∀ x ∈ xs, x.length ≤ B) → (joinL y xs).length ≤ xs.length * (B + y.length)
  | [], _ => Nat.zero_le _
  | [x], h => by
    show x.length ≤ 1 * (B + y.length)
    have := h x List.mem_cons_self
    omega
  | x :: z :: r, h => by
    have ih := joinL_len (y := y) (xs := z :: r) fun a ha => h a (List.mem_cons_of_mem _ ha)
    show (x ++ (y ++ joinL y (z :: r))).length ≤ _
    have := h x List.mem_cons_self
    rw [List.length_append, List.length_append]
    have e : (x :: z :: r).length * (B + y.length) = (z :: r).length * (B + y.length) + (B + y.length) := by rw [List.length_cons, Nat.succ_mul]
    omega
theorem join_len {y : Str} {ys : List Str} {B : Nat} (h : ∀ x ∈ ys, x.length ≤ B) : (Txt.join y ys).length ≤ ys.length * (B + y.length) := by
  rw [str_len, join_eq, tl_join]
  have := joinL_len (y := tl y) (xs := ys.map tl) (B := B) fun x hx => by
    obtain ⟨z, hz, rfl⟩ := List.mem_map.mp hx
    rw [← str_len]; exact h z hz
  rw [List.length_map] at this
  rw [str_len (a := y)]
  exact this
section
variable {P : Program} {w : World} {K : PySem.W.Frag} {mg : Str → Option Value} {base : Heap} {f : Addr} {fd : FuncData} {cR cF cW cU cY : Addr}
abbrev NUR : List Str := ["cls", "text", "words", "at", "word", "outcomes"]
theorem scUR : FnScope NUR ["cls", "text"] (defScope (inClass (top 54) 1)) := ⟨rfl, rfl, rfl, by decide +kernel, rfl, by decide +kernel, by decide +kernel⟩
abbrev spUR (cU : Addr) : Sp := SpD (fun t : List Nat => [Is (.ref cU), stP (ruT t)]) sRI (fun t => Ru cU t)
theorem small600 {n : Nat} (h : n < 2 ^ 250) : ((n : Nat) : Int).natAbs < 10 ^ 600 := by rw [Int.natAbs_natCast]; exact Nat.lt_trans h p600
theorem body_ur (b : Fb mg) (IT : Gf P w K mg base 2 "is_top" spTop) (m : Mkf P w K mg base 1 cU (spRI cU)) (t : List Nat) (h : sRI t) : BodyOk P w K mg base NUR "Rule.read" (defScope (inClass (top 54) 1)) (defBody (inClass (top 54) 1)) 2 (padG NUR ([Is (.ref cU), stP (ruT t)].map .is)) (Ru cU t) none := by
  intro f cdv Ar outer s H E fam
  have nd := scUR.nd
  have h6 := h.2.1
  have ht : ∀ o ∈ t, ((o : Nat) : Int).natAbs < 10 ^ 600 := fun o ho => small600 (Nat.lt_trans (h.2.2 o ho) (by decide))
  have e1 : Txt.split (ruT t) " " = t.map fun n : Nat => numT (n : Int) := by
    have := sp_words (ns := t.map fun n : Nat => (n : Int)) (by have := h.1; intro z; rw [List.map_eq_nil_iff] at z; rw [z] at this; simp at this)
    rw [List.map_map] at this
    exact this
  have hl : (ruT t).length ≤ 6 * 101 := by
    have := join_len (y := " ") (ys := t.map fun n : Nat => numT (n : Int)) (B := 100) fun x hx => by
      obtain ⟨n, hn, rfl⟩ := List.mem_map.mp hx
      exact numT_len (k := 99) (by rw [Int.natAbs_natCast]; exact Nat.lt_trans (h.2.2 n hn) (by decide)) (by decide)
    rw [List.length_map] at this
    have e : (" " : Str).length = 1 := by decide
    rw [e] at this
    exact Nat.le_trans this (Nat.mul_le_mul_right _ h6)
  refine ⟨none, ?_, fun _ h => nomatch h⟩
  refine b_st 2 (fun _ => nd) (P := Ls (t.map fun n : Nat => stP (numT (n : Int)))) (TyE.eq (e_split (vr 1) e_str (by decide) (by rw [sizeLine_eq]; omega)) (by rw [e1, List.map_map]; rfl)) ?_
  refine b_forF t.zipIdx (fun z => Tp [IsI (z.2 : Nat), stP (numT ((z.1 : Nat) : Int))]) (fun _ : Unit => [.is (Is (.ref cU)), .is (stP (ruT t)), .is (Ls (t.map fun n : Nat => stP (numT (n : Int)))), .any, .any, .any]) (fun _ z => [.is (Is (.ref cU)), .is (stP (ruT t)), .is (Ls (t.map fun n : Nat => stP (numT (n : Int)))), .is (IsI (z.2 : Nat)), .is (stP (numT ((z.1 : Nat) : Int))), .any]) (fun _ _ => ()) () (fun _ _ => True) trivial (fun _ => rfl) (fun _ => rfl)
    (i_enL (it := fun n : Nat => stP (numT (n : Int))) (fun _ => rfl) (fun _ => b.enum) (vr 2)) (fun _ z _ => g_pr 3 4 (fun _ => rfl) (fun _ => rfl) (fun _ => nd)) (fun _ _ z hz _ _ => ?_) (fun _ _ _ _ _ _ => trivial) fun _ => ?_
  · have hm : z.1 ∈ t := List.mem_of_getElem? (List.mem_zipIdx_iff_getElem?.mp hz)
    exact b_guard (t_not (t_val (e_gf fam IT ((z.1 : Nat) : Int) (fun _ => rfl) (a_1 (vr 4)) (ht _ hm)))) rfl (b_nil (.cons .rfl (.cons .rfl (.cons .rfl (.cons .any (.cons .any (.cons .any .nil)))))))
  · refine b_lcN (ds := t) (it := fun n : Nat => stP (numT (n : Int))) (f := ni) 5 4 (fun _ => nd) (fun _ => rfl) (i_list (fun _ => rfl) (vr 2)) (fun o ho => e_intS (fun _ => b.int) (numT_read (ht o ho)).1 (numT_read (ht o ho)).2 (vr 4)) (by rw [sizeLine_eq]; omega) (fun i M h z => by subst z; cases h) ?_
    exact b_ret (e_mkLS fam m t 0 (fun _ => rfl) (fun _ => Or.inl rfl) rfl (TyE.conv (vr 5) fun _ _ h => Ls.sq h) h) OwnAt.none
end
end Tf
end
section
/-! Worths.read. -/
namespace Tf
open PySem PySem.Spec PyProof.Rows L2 Ty TL
def rwT (r : List Int) : Str := Txt.join " " (r.map numT)
def woT (rows : List (List Int)) : Str := Txt.join "; " (rows.map rwT)
theorem mem_joinL {c : Nat} {y : List Nat} : ∀ {xs : List (List Nat)}, c ∈ joinL y xs → c ∈ y ∨ ∃ x ∈ xs, c ∈ x
  | [], h => by cases h
  | [x], h => .inr ⟨x, List.mem_cons_self, h⟩
  | x :: z :: r, h => by
    have h : c ∈ x ++ (y ++ joinL y (z :: r)) := h
    rcases List.mem_append.mp h with h | h
    · exact .inr ⟨x, List.mem_cons_self, h⟩
    · rcases List.mem_append.mp h with h | h
      · exact .inl h
      · rcases mem_joinL h with h | ⟨a, ha, hc⟩
        · exact .inl h
        · exact .inr ⟨a, List.mem_cons_of_mem _ ha, hc⟩
theorem rwT_sign {r : List Int} : 59 ∉ tl (rwT r) := fun h => by
  unfold rwT at h
  rw [join_eq, tl_join] at h
  rcases mem_joinL h with h | ⟨x, hx, h⟩
  · have e : tl (" " : Str) = [32] := by decide
    rw [e] at h; simp at h
  · obtain ⟨z, hz, rfl⟩ := List.mem_map.mp hx
    obtain ⟨n, _, rfl⟩ := List.mem_map.mp hz
    exact num_nosep (.inr (.inl (by decide))) h
theorem woT_split {rows : List (List Int)} (h : rows ≠ []) : Txt.split (woT rows) "; " = rows.map rwT :=
  split_join (y := "; ") (s := 59) (S := [32]) (by decide) (by decide +kernel) (by simpa using h) fun p hp => by
    obtain ⟨r, _, rfl⟩ := List.mem_map.mp hp
    exact rwT_sign
structure sWD (rows : List (List Int)) : Prop where
  rc : Rc rows
  bd : ∀ r ∈ rows, ∀ x ∈ r, x.natAbs < 2 ^ 250
theorem sWD.row {rows : List (List Int)} (h : sWD rows) {r : List Int} (hr : r ∈ rows) : 1 ≤ r.length ∧ r.length ≤ 6 := by
  have := h.rc.eq r hr
  have := h.rc.m1
  have := h.rc.m6
  omega
theorem rwT_len {rows : List (List Int)} (h : sWD rows) {r : List Int} (hr : r ∈ rows) : (rwT r).length ≤ 612 := by
  have h1 := join_len (y := " ") (ys := r.map numT) (B := 101) fun x hx => by
    obtain ⟨n, hn, rfl⟩ := List.mem_map.mp hx
    exact len80 (h.bd r hr n hn)
  have e : (" " : Str).length = 1 := by decide
  rw [List.length_map, e] at h1
  exact Nat.le_trans h1 (Nat.mul_le_mul_right 102 (h.row hr).2)
theorem woT_len {rows : List (List Int)} (h : sWD rows) : (woT rows).length ≤ 6 * 614 := by
  have h1 := join_len (y := "; ") (ys := rows.map rwT) (B := 612) fun x hx => by
    obtain ⟨r, hr, rfl⟩ := List.mem_map.mp hx
    exact rwT_len h hr
  have e : ("; " : Str).length = 2 := by decide
  rw [List.length_map, e] at h1
  exact Nat.le_trans h1 (Nat.mul_le_mul_right 614 h.rc.n6)
section
variable {P : Program} {w : World} {K : PySem.W.Frag} {mg : Str → Option Value} {base : Heap} {f : Addr} {fd : FuncData} {cR cF cW cU cY : Addr}
abbrev NWD : List Str := ["cls", "text", "parts", "part", "at", "words", "word", "rows"]
theorem scWD : FnScope NWD ["cls", "text"] (defScope (inClass (top 53) 1)) := ⟨rfl, rfl, rfl, by decide +kernel, rfl, by decide +kernel, by decide +kernel⟩
abbrev spWD (cW : Addr) : Sp := SpD (fun t : List (List Int) => [Is (.ref cW), stP (woT t)]) sWD (fun t => Wo cW t)
abbrev wdP (r : List Int) : Pd := Ls (r.map fun n => stP (numT n))
theorem body_wd (b : Fb mg) (IT : Gf P w K mg base 2 "is_top" spTop) (m : Mkf P w K mg base 1 cW (spWI cW)) (t : List (List Int)) (h : sWD t) : BodyOk P w K mg base NWD "Worths.read" (defScope (inClass (top 53) 1)) (defBody (inClass (top 53) 1)) 2 (padG NWD ([Is (.ref cW), stP (woT t)].map .is)) (Wo cW t) none := by
  intro f cdv Ar outer s H E fam
  have nd := scWD.nd
  have n6 := h.rc.n6
  have hne : t ≠ [] := fun z => by have := h.rc.n1; rw [z] at this; simp at this
  have hl := woT_len h
  have ht : ∀ r ∈ t, ∀ o ∈ r, o.natAbs < 10 ^ 600 := fun r hr o ho => Nat.lt_trans (h.bd r hr o ho) p600
  have hz : t.length ≤ sizeLine := by rw [sizeLine_eq]; omega
  have e1 := woT_split hne
  have e2 : ∀ r ∈ t, Txt.split (rwT r) " " = r.map numT := fun r hr => sp_words fun z => by have := (h.row hr).1; rw [z] at this; simp at this
  refine ⟨none, ?_, fun _ h => nomatch h⟩
  refine b_lcN (ds := t) (it := fun r => stP (rwT r)) (f := wdP) 2 3 (fun _ => nd) (fun _ => rfl) (i_list (fun _ => rfl) (TyE.eq (e_split (vr 1) e_str (by decide) (by rw [sizeLine_eq]; omega)) (by rw [e1, List.map_map]; rfl))) (fun r hr => TyE.eq (e_split (vr 3) e_str (by decide) (by have := rwT_len h hr; rw [sizeLine_eq]; omega)) (by rw [e2 r hr, List.map_map]; rfl)) hz (fun i M h z => by subst z; cases h) ?_
  refine b_forF t.zipIdx (fun z => Tp [IsI (z.2 : Nat), wdP z.1]) (fun _ : Unit => [.is (Is (.ref cW)), .is (stP (woT t)), .is (Ls (t.map wdP)), .any, .any, .any, .any, .any]) (fun _ z => [.is (Is (.ref cW)), .is (stP (woT t)), .is (Ls (t.map wdP)), .any, .is (IsI (z.2 : Nat)), .is (wdP z.1), .any, .any]) (fun _ _ => ()) () (fun _ _ => True) trivial (fun _ => rfl) (fun _ => rfl)
    (i_enL (it := wdP) (fun _ => rfl) (fun _ => b.enum) (vr 2)) (fun _ z _ => g_pr 4 5 (fun _ => rfl) (fun _ => rfl) (fun _ => nd)) (fun _ _ z hz _ _ => ?_) (fun _ _ _ _ _ _ => trivial) fun _ => ?_
  · have hm : z.1 ∈ t := List.mem_of_getElem? (List.mem_zipIdx_iff_getElem?.mp hz)
    refine b_guard (t_not (t_val (e_all (bs := z.1.map fun _ => true) (fun _ => rfl) (fun _ => b.all) (fun _ => rfl) (TyE.eq (e_lcN (ds := z.1) (it := fun n => stP (numT n)) (f := fun _ => IsB true) 6 (fun _ => nd) (fun _ => rfl) (i_list (fun _ => rfl) (vr 5)) (fun n hn => e_gf fam.blk IT n (fun _ => rfl) (a_1 (vr 6)) (ht _ hm n hn)) (by have := (h.row hm).2; rw [sizeLine_eq]; omega) (fun i M h z => by subst z; cases h)) (by rw [List.map_map]; rfl))))) ?_ (b_nil (.cons .rfl (.cons .rfl (.cons .rfl (.cons .any (.cons .any (.cons .any (.cons .any (.cons .any .nil)))))))))
    have : (z.1.map fun _ => true).all id = true := by rw [List.all_map, List.all_eq_true]; intro _ _; rfl
    rw [this]; rfl
  · refine b_lcN (ds := t) (it := wdP) (f := rowP) 7 5 (fun _ => nd) (fun _ => rfl) (i_list (fun _ => rfl) (vr 2)) (fun r hr => e_lcN (ds := r) (it := fun n => stP (numT n)) (f := IsI) 6 (fun _ => nd) (fun _ => rfl) (i_list (fun _ => rfl) (vr 5)) (fun o ho => e_intS (fun _ => b.int) (numT_read (ht r hr o ho)).1 (numT_read (ht r hr o ho)).2 (vr 6)) (by have := (h.row hr).2; rw [sizeLine_eq]; omega) (fun i M h z => by subst z; cases h)) hz (fun i M h z => by subst z; cases h) ?_
    exact b_ret (e_mkLS fam m t 0 (fun _ => rfl) (fun _ => Or.inl rfl) rfl (TyE.conv (vr 7) fun _ _ h => Ls.sq h) h.rc) OwnAt.none
end
end Tf
end
section
/-! Fees.read. -/
namespace Ty
open PySem PySem.Spec PyProof.Rows L2
theorem b_try {ι : Type} {X : ι → Cx} {Ga Gb : List Sl} {body rest : List Stmt} {h0 : ExceptHandler} {hs : List ExceptHandler} {pos : Pos} {n : Option (List Sl)} {R : Pd} {O : Option Mo} (hx : ∀ i, (X i).nox = X i) (h : TyB X Ga body (some Gb) R O) (hr : TyB X Gb rest n R O) : TyB X Ga (.Try body (h0 :: hs) [] [] pos :: rest) n R O :=
  b_cons (fun b σ G H D f kn kr => ⟨uB X body, fun i => ps_try_thru0 (by rw [hx i]; exact uB_ps i), h b σ G H D f kn kr⟩) hr
end Ty
namespace Tf
open PySem PySem.Spec PyProof.Rows L2 Ty TL
def feT (qs : List Rat) : Str := Txt.join " " (qs.map ratT)
theorem ratT_sign {q : Rat} : 32 ∉ tl (ratT q) := fun h => by
  unfold ratT at h
  split at h
  · exact num_nosep (.inl (by decide)) h
  · simp only [tl_append, List.mem_append] at h
    have e1 : tl Str.empty = [] := rfl
    have e2 : tl ("/" : Str) = [47] := by decide
    rw [e1, e2] at h
    rcases h with ((h | h) | h) | h
    · cases h
    · exact num_nosep (.inl (by decide)) h
    · simp at h
    · exact num_nosep (.inl (by decide)) h
theorem feT_split {qs : List Rat} (h : qs ≠ []) : Txt.split (feT qs) " " = qs.map ratT :=
  split_join (y := " ") (s := 32) (S := []) (by decide) (by decide +kernel) (by simpa using h) fun p hp => by
    obtain ⟨n, _, rfl⟩ := List.mem_map.mp hp
    exact ratT_sign
structure sFD (qs : List Rat) : Prop where
  l1 : 1 ≤ qs.length
  l6 : qs.length ≤ 6
  sz : ∀ q ∈ qs, Sz q
theorem feT_len {qs : List Rat} (h : sFD qs) : (feT qs).length ≤ 6 * 204 := by
  have h1 := join_len (y := " ") (ys := qs.map ratT) (B := 203) fun x hx => by
    obtain ⟨n, hn, rfl⟩ := List.mem_map.mp hx
    exact ratT_len (h.sz n hn)
  have e : (" " : Str).length = 1 := by decide
  rw [List.length_map, e] at h1
  exact Nat.le_trans h1 (Nat.mul_le_mul_right 204 h.l6)
section
variable {P : Program} {w : World} {K : PySem.W.Frag} {mg : Str → Option Value} {base : Heap} {f : Addr} {fd : FuncData} {cR cF cW cU cY : Addr}
abbrev NFD : List Str := ["cls", "text", "found", "at", "word"]
theorem scFD : FnScope NFD ["cls", "text"] (defScope (inClass (top 19) 1)) := ⟨rfl, rfl, rfl, by decide +kernel, rfl, by decide +kernel, by decide +kernel⟩
abbrev spFD (cR cF : Addr) : Sp := SpD (fun t : List Rat => [Is (.ref cF), stP (feT t)]) sFD (fun t => Fe cR cF t)
theorem body_fd (b : Fb mg) (r : RaF mg K cR) (RR : Cm P w K mg base 4 cR "read" (spRR cR)) (m : Mkf P w K mg base 1 cF (spFI cR cF)) (t : List Rat) (h : sFD t) : BodyOk P w K mg base NFD "Fees.read" (defScope (inClass (top 19) 1)) (defBody (inClass (top 19) 1)) 4 (padG NFD ([Is (.ref cF), stP (feT t)].map .is)) (Fe cR cF t) none := by
  intro f cdv Ar outer s H E fam
  have nd := scFD.nd
  have hl := feT_len h
  have l6 := h.l6
  have hne : t ≠ [] := fun z => by have := h.l1; rw [z] at this; simp at this
  refine ⟨none, ?_, fun _ h => nomatch h⟩
  refine b_stM 2 (fun _ => nd) (M := Ml []) (fun i => pe_lst (uA_pa i)) (n_lst a_nil (Nat.zero_le _)) ?_
  refine b_forF t.zipIdx (fun z => Tp [IsI (z.2 : Nat), stP (ratT z.1)]) (fun acc : List Rat => [.is (Is (.ref cF)), .is (stP (feT t)), .mu (Ml (acc.map (Ra cR))), .any, .any]) (fun acc z => [.is (Is (.ref cF)), .is (stP (feT t)), .mu (Ml (acc.map (Ra cR))), .is (IsI (z.2 : Nat)), .is (stP (ratT z.1))]) (fun acc z => acc ++ [z.1]) [] (fun pre acc => acc = pre.map (·.1)) rfl (fun _ => rfl) (fun _ => rfl)
    (i_enL (it := fun q => stP (ratT q)) (fun _ => rfl) (fun _ => b.enum) (TyE.eq (e_split (vr 1) e_str (by decide) (by rw [sizeLine_eq]; omega)) (by rw [feT_split hne, List.map_map]; rfl))) (fun acc z _ => g_pr 3 4 (fun _ => rfl) (fun _ => rfl) (fun _ => nd)) (fun pre acc z hz ha hpo => ?_) (fun pre acc z _ ha _ => ?_) fun ha => ?_
  · have hm : z.1 ∈ t := List.mem_of_getElem? (List.mem_zipIdx_iff_getElem?.mp hz)
    have hlen : acc.length < 10 := by
      obtain ⟨post, hp⟩ := hpo
      have := congrArg List.length hp
      rw [List.length_zipIdx, List.length_append] at this
      rw [ha, List.length_map]; omega
    refine b_try (Gb := [.is (Is (.ref cF)), .is (stP (feT t)), .mu (Ml ((acc ++ [z.1]).map (Ra cR))), .any, .any]) (fun _ => rfl) ?_ (b_nil (GaLe.refl _))
    refine b_app (Ps := acc.map (Ra cR)) (P := Ra cR z.1) (fun _ => rfl) (fun _ => pv 2) rfl (.mu (M := Ml (acc.map (Ra cR)))) (e_cm fam RR z.1 (e_cls (fun _ => r.glo)) (a_1 (vr 4)) rfl (h.sz _ hm)) rfl .mu (by rw [List.length_map, sizeLine_eq]; omega) (b_nil ?_)
    rw [List.map_append]
    exact .cons .rfl (.cons .rfl (.cons .rfl (.cons .any (.cons .any .nil))))
  · rw [ha, List.map_append]; rfl
  · have e : t.zipIdx.foldl (fun acc z => acc ++ [z.1]) [] = t := by rw [ha]; simp
    rw [e]
    refine b_freeze (k := 2) (P := Ls (t.map (Ra cR))) rfl Ml.known ?_
    exact b_ret (e_mkLS fam m t 0 (fun _ => rfl) (fun _ => Or.inl rfl) rfl (TyE.conv (vr 2) fun _ _ h => Ls.sq h) ⟨h.l1, h.l6⟩) OwnAt.none
end
end Tf
end
section
/-! Worths' text. -/
namespace Tf
open PySem PySem.Spec PyProof.Rows L2 Ty TL
section
variable {P : Program} {w : World} {K : PySem.W.Frag} {mg : Str → Option Value} {base : Heap} {f : Addr} {fd : FuncData} {cR cF cW cU cY : Addr}
abbrev NWS : List Str := ["self", "row", "worth"]
theorem scWS : FnScope NWS ["self"] (defScope (inClass (top 53) 6)) := ⟨rfl, rfl, rfl, by decide +kernel, rfl, by decide +kernel, by decide +kernel⟩
abbrev spWS (cW : Addr) : Sp := SpD (fun t : List (List Int) => [Wo cW t]) sWD (fun t => stP (woT t))
theorem sum_le {l : List Nat} {B : Nat} (h : ∀ x ∈ l, x ≤ B) : l.sum ≤ l.length * B := by
  induction l with
  | nil => exact Nat.zero_le _
  | cons x l ih =>
    have h1 := h x List.mem_cons_self
    have h2 := ih fun y hy => h y (List.mem_cons_of_mem _ hy)
    rw [List.sum_cons, List.length_cons, Nat.succ_mul]; omega
theorem body_ws (b : Fb mg) (r : WoF mg K cW) (t : List (List Int)) (h : sWD t) : BodyOk P w K mg base NWS "Worths.__str__" (defScope (inClass (top 53) 6)) (defBody (inClass (top 53) 6)) 0 (padG NWS ([Wo cW t].map .is)) (stP (woT t)) none := by
  intro f cdv Ar outer s H E fam
  have nd := scWS.nd
  have n6 := h.rc.n6
  refine ⟨none, ?_, fun _ h => nomatch h⟩
  have es : (" " : Str).length = 1 := by decide
  have es2 : ("; " : Str).length = 2 := by decide
  refine b_ret (e_join (ys := t.map rwT) (fun _ => rfl) e_str (TyE.eq (e_lcN (ds := t) (it := rowP) (f := fun x => stP (rwT x)) 1 (fun _ => nd) (fun _ => rfl) (i_list (fun _ => rfl) (e_cells r (fun _ => rfl) (vr 0))) (fun x hx => e_join (ys := x.map numT) (fun _ => rfl) e_str (TyE.eq (e_lcN (ds := x) (it := IsI) (f := fun n => stP (numT n)) 2 (fun _ => nd) (fun _ => rfl) (i_list (fun _ => rfl) (vr 1)) (fun n hn => e_strI (fun _ => b.str) (Nat.lt_trans (log2_lt (by decide) (h.bd x hx n hn)) (by decide)) (vr 2)) (by have := (h.row hx).2; rw [sizeLine_eq]; omega) (fun i M h z => by subst z; cases h)) (by rw [List.map_map]; rfl)) ?_) (by rw [sizeLine_eq]; omega) (fun i M h z => by subst z; cases h)) (by rw [List.map_map]; rfl)) ?_) OwnAt.none
  · have hl : ((x.map numT).map (·.length)).sum ≤ 6 * 101 := by
      have := sum_le (l := (x.map numT).map (·.length)) (B := 101) fun y hy => by
        obtain ⟨z, hz, rfl⟩ := List.mem_map.mp hy
        obtain ⟨n, hn, rfl⟩ := List.mem_map.mp hz
        exact len80 (h.bd x hx n hn)
      rw [List.length_map, List.length_map] at this
      exact Nat.le_trans this (Nat.mul_le_mul_right 101 (h.row hx).2)
    have := (h.row hx).2
    rw [es, List.length_map]; omega
  · have hl : ((t.map rwT).map (·.length)).sum ≤ 6 * 612 := by
      have := sum_le (l := (t.map rwT).map (·.length)) (B := 612) fun y hy => by
        obtain ⟨z, hz, rfl⟩ := List.mem_map.mp hy
        obtain ⟨n, hn, rfl⟩ := List.mem_map.mp hz
        exact rwT_len h hn
      rw [List.length_map, List.length_map] at this
      exact Nat.le_trans this (Nat.mul_le_mul_right 612 n6)
    rw [es2, List.length_map]; omega
end
end Tf
end
section
/-! Rule and Fees walked. -/
namespace Tf
open PySem PySem.Spec PyProof.Rows L2 Ty TL
section
variable {P : Program} {w : World} {K : PySem.W.Frag} {mg : Str → Option Value} {base : Heap} {f : Addr} {fd : FuncData} {cR cF cW cU cY : Addr}
theorem scRI4 : FnScope ["self"] ["self"] (defScope (inClass (top 54) 4)) := ⟨rfl, rfl, rfl, by decide +kernel, rfl, by decide +kernel, by decide +kernel⟩
theorem scFI4 : FnScope ["self"] ["self"] (defScope (inClass (top 19) 4)) := ⟨rfl, rfl, rfl, by decide +kernel, rfl, by decide +kernel, by decide +kernel⟩
theorem it_rule (b : Fb mg) (r : RuF mg K cU) (F : FnP K "__iter__" "Rule.__iter__" (inClass (top 54) 4) f fd) : Ow.FnIt P w K mg base 1 f cU "outcomes" :=
  Ow.fn_it F scRI4 rfl (F.bindsN fun _ _ _ _ _ _ us hl => match us, hl with | [_], _ => rfl) fun cdv A outer s H a dx fs t zs hr ha hl hs Q k =>
    ⟨_, pss_one (ps_ret (pe_callB Ow.call_iterT rfl b.iter rfl (pa_cons (pe_fld (pe_var (i := 0) rfl (Or.inl rfl)) rfl) pa_nil))), .ref a, rfl, a, cU, dx, fs, .ref t, rfl, ha, r.isc.cl, r.naO, hl, t, zs, rfl, hs, fun it hn hi => k it hi hn⟩
theorem it_fees (b : Fb mg) (r : FeF mg K cF) (F : FnP K "__iter__" "Fees.__iter__" (inClass (top 19) 4) f fd) : Ow.FnIt P w K mg base 1 f cF "amounts" :=
  Ow.fn_it F scFI4 rfl (F.bindsN fun _ _ _ _ _ _ us hl => match us, hl with | [_], _ => rfl) fun cdv A outer s H a dx fs t zs hr ha hl hs Q k =>
    ⟨_, pss_one (ps_ret (pe_callB Ow.call_iterT rfl b.iter rfl (pa_cons (pe_fld (pe_var (i := 0) rfl (Or.inl rfl)) rfl) pa_nil))), .ref a, rfl, a, cF, dx, fs, .ref t, rfl, ha, r.isc.cl, r.naA, hl, t, zs, rfl, hs, fun it hn hi => k it hi hn⟩
theorem ln_rule (b : Fb mg) (r : RuF mg K cU) (F : FnP K "__len__" "Rule.__len__" (inClass (top 54) 3) f fd) : FnR P w K mg base CX0 1 f (Ow.spLn K cU "outcomes") :=
  Ty.FnOk.r (F.ok (k := 0) scRL (fun vs H Q E ⟨a, dx, fs, t, zs, ev, _⟩ => by rw [ev]; rfl) fun cdv A outer s H vs Q E hr ⟨a, dx, fs, t, zs, ev, ha, hl, hs, q⟩ =>
    ⟨_, pss_one (ps_ret (pe_callB call_len_seq rfl b.len rfl (pa_cons (pe_fld (pe_var (i := 0) rfl (Or.inl rfl)) rfl) pa_nil))), .ref a, by rw [ev]; rfl, a, cU, dx, fs, .ref t, rfl, ha, r.isc.cl, r.naO, hl, t, zs, rfl, .inr hs, q⟩) (F.bindsN fun _ _ _ _ _ _ us hl => match us, hl with | [_], _ => rfl)
theorem ln_fees (b : Fb mg) (r : FeF mg K cF) (F : FnP K "__len__" "Fees.__len__" (inClass (top 19) 3) f fd) : FnR P w K mg base CX0 1 f (Ow.spLn K cF "amounts") :=
  Ty.FnOk.r (F.ok (k := 0) scFL (fun vs H Q E ⟨a, dx, fs, t, zs, ev, _⟩ => by rw [ev]; rfl) fun cdv A outer s H vs Q E hr ⟨a, dx, fs, t, zs, ev, ha, hl, hs, q⟩ =>
    ⟨_, pss_one (ps_ret (pe_callB call_len_seq rfl b.len rfl (pa_cons (pe_fld (pe_var (i := 0) rfl (Or.inl rfl)) rfl) pa_nil))), .ref a, by rw [ev]; rfl, a, cF, dx, fs, .ref t, rfl, ha, r.isc.cl, r.naA, hl, t, zs, rfl, .inr hs, q⟩) (F.bindsN fun _ _ _ _ _ _ us hl => match us, hl with | [_], _ => rfl)
end
end Tf
end
section
/-! Data compared. -/
namespace Ty
open PySem PySem.Spec PyProof.Rows L2
open Evl (Ex)
/-- what is known as plain data -/
structure Dq (K : PySem.W.Frag) (P : Pd) (d : PyData) : Prop where
  dp : ∀ v G H, Ex G H → P.p v G → Dp K H v d
  sh : d.canLay0 = true
def ldat (ns : List Int) : PyData := .list (ns.map .int)
def tdat (ns : List Int) : PyData := .tuple (ns.map .int)
section
variable {K : PySem.W.Frag} {P : Pd} {d : PyData}
theorem dq_int {i : Int} : Dq K (IsI i) (.int i) := ⟨fun v G H e h => by cases h; exact .int i, by simp [PyData.canLay0]⟩
theorem dp_all {α : Type} {f : α → Pd} {g : α → PyData} (h : ∀ a, Dq K (f a) (g a)) {G H : Hp} (e : Ex G H) : ∀ {as : List α} {xs : List V}, AllP (as.map f) xs G → DpAll K H xs (as.map g)
  | [], [], _ => .nil
  | a :: as, x :: xs, hp => .cons ((h a).dp x G H e hp.1) (dp_all h e hp.2)
  | [], _ :: _, hp => hp.elim
  | _ :: _, [], hp => hp.elim
theorem lay_all {α : Type} {f : α → Pd} {g : α → PyData} (h : ∀ a, Dq K (f a) (g a)) : ∀ as : List α, PyData.canLayAll0 (as.map g) = true
  | [] => by simp [PyData.canLayAll0]
  | a :: as => by
    rw [List.map_cons]
    unfold PyData.canLayAll0
    rw [(h a).sh, lay_all h as]; rfl
theorem dq_ls {α : Type} {f : α → Pd} {g : α → PyData} (h : ∀ a, Dq K (f a) (g a)) (as : List α) : Dq K (Ls (as.map f)) (.list (as.map g)) := ⟨fun v G H e hp => by
  obtain ⟨a, xs, rfl, hx, hp⟩ := hp
  exact .lst (SqL.of (e _ _ hx)) (dp_all h e hp), by unfold PyData.canLay0; exact lay_all h as⟩
theorem dq_tp {α : Type} {f : α → Pd} {g : α → PyData} (h : ∀ a, Dq K (f a) (g a)) (as : List α) : Dq K (Tp (as.map f)) (.tuple (as.map g)) := ⟨fun v G H e hp => by
  obtain ⟨a, xs, rfl, hx, hp⟩ := hp
  exact .tup (SqT.of (e _ _ hx)) (dp_all h e hp), by unfold PyData.canLay0; exact lay_all h as⟩
end
theorem eqv_all {α : Type} {g : α → PyData} (hg : ∀ a b, PyData.eqv (g a) (g b) = true ↔ a = b) : ∀ as bs : List α, PyData.eqvAll (as.map g) (bs.map g) = true ↔ as = bs
  | [], [] => by simp [PyData.eqvAll]
  | [], b :: bs => by simp [PyData.eqvAll]
  | a :: as, [] => by simp [PyData.eqvAll]
  | a :: as, b :: bs => by
    rw [List.map_cons, List.map_cons]
    unfold PyData.eqvAll
    rw [Bool.and_eq_true, hg, eqv_all hg as bs]
    simp
theorem eqv_int (i j : Int) : PyData.eqv (.int i) (.int j) = true ↔ i = j := by simp [PyData.eqv]
theorem eqv_ls {α : Type} {g : α → PyData} (hg : ∀ a b, PyData.eqv (g a) (g b) = true ↔ a = b) (as bs : List α) : PyData.eqv (.list (as.map g)) (.list (bs.map g)) = true ↔ as = bs := by
  unfold PyData.eqv
  exact eqv_all hg as bs
theorem eqv_tp {α : Type} {g : α → PyData} (hg : ∀ a b, PyData.eqv (g a) (g b) = true ↔ a = b) (as bs : List α) : PyData.eqv (.tuple (as.map g)) (.tuple (bs.map g)) = true ↔ as = bs := by
  unfold PyData.eqv
  exact eqv_all hg as bs
section
variable {ι : Type} {X : ι → Cx} {Ga Gb Gc : List Sl} {a c : Expr} {pos : Pos} {Pr : Program} {w : World} {K : PySem.W.Frag} {mg : Str → Option Value} {base : Heap} {j : Nat} {P1 P2 : Pd} {d e : PyData} {b : Bool}
theorem dq_shaped {d : PyData} (h : d.canLay0 = true) (h2 : d.depth ≤ 64) : SeqAt.shaped d = true := by
  unfold SeqAt.shaped
  rw [h, decide_eq_true h2]; rfl
theorem v_eqD (fam : Fam X Pr w K mg base j) (ha : TyE X Ga a P1 Gb) (hc : TyE X Gb c P2 Gc) (h1 : Dq K P1 d) (h2 : Dq K P2 e) (l1 : d.depth ≤ 64) (l2 : e.depth ≤ 64) (hb : PyData.eqv d e = b) (hm : behindInMarks .Eq c = false := by first | exact nomark _ | rfl) : TyE X Ga (.Compare a [.Eq] [c] pos) (IsB b) Gc :=
  e_cmp (r := rEqD K) (fun i => by rw [← fam.K i]; exact op_eqD (by have := (fam.room i).un; omega)) ha hc (fun x y G H Q ex p1 p2 k => ⟨d, e, h1.dp x G H ex p1, h2.dp y G H ex p2, dq_shaped h1.sh l1, dq_shaped h2.sh l2, by rw [hb]; exact k _ G H (Step.refl ex) rfl⟩) hm
theorem t_eqD (fam : Fam X Pr w K mg base j) (ha : TyE X Ga a P1 Gb) (hc : TyE X Gb c P2 Gc) (h1 : Dq K P1 d) (h2 : Dq K P2 e) (l1 : d.depth ≤ 64) (l2 : e.depth ≤ 64) (hb : PyData.eqv d e = b) (hm : behindInMarks .Eq c = false := by first | exact nomark _ | rfl) : TyT X Ga (.Compare a [.Eq] [c] pos) b Gc :=
  t_cmp (r := rEqD K) (fun i => by rw [← fam.K i]; exact op_eqD (by have := (fam.room i).un; omega)) ha hc (fun x y G H Q ex p1 p2 k => ⟨d, e, h1.dp x G H ex p1, h2.dp y G H ex p2, dq_shaped h1.sh l1, dq_shaped h2.sh l2, by rw [hb]; exact k _ G H (Step.refl ex) rfl⟩) hm
theorem t_neD (fam : Fam X Pr w K mg base j) (ha : TyE X Ga a P1 Gb) (hc : TyE X Gb c P2 Gc) (h1 : Dq K P1 d) (h2 : Dq K P2 e) (l1 : d.depth ≤ 64) (l2 : e.depth ≤ 64) (hb : PyData.eqv d e = b) (hm : behindInMarks .NotEq c = false := by first | exact nomark _ | rfl) : TyT X Ga (.Compare a [.NotEq] [c] pos) (!b) Gc :=
  t_cmp (r := rNeD K) (fun i => by rw [← fam.K i]; exact op_neD (by have := (fam.room i).un; omega)) ha hc (fun x y G H Q ex p1 p2 k => ⟨d, e, h1.dp x G H ex p1, h2.dp y G H ex p2, dq_shaped h1.sh l1, dq_shaped h2.sh l2, by rw [hb]; exact k _ G H (Step.refl ex) rfl⟩) hm
end
end Ty
end
section
/-! == of Worths, of Rule. -/
namespace Tf
open PySem PySem.Spec PyProof.Rows L2 Ty TL
def rowsD (rows : List (List Int)) : PyData := .list (rows.map ldat)
def toldD (t : List Nat) : PyData := .tuple (t.map fun n : Nat => .int (n : Int))
theorem dq_row {K : PySem.W.Frag} (r : List Int) : Dq K (rowP r) (ldat r) := dq_ls (fun _ => dq_int) r
theorem dq_rows {K : PySem.W.Frag} (rows : List (List Int)) : Dq K (Ls (rows.map rowP)) (rowsD rows) := dq_ls (g := ldat) (fun r => dq_row r) rows
theorem dq_told {K : PySem.W.Frag} (t : List Nat) : Dq K (Tp (t.map ni)) (toldD t) := dq_tp (g := fun n : Nat => .int (n : Int)) (fun n => dq_int) t
theorem eqv_row (a b : List Int) : PyData.eqv (ldat a) (ldat b) = true ↔ a = b := eqv_ls eqv_int a b
theorem eqv_rows (a b : List (List Int)) : PyData.eqv (rowsD a) (rowsD b) = true ↔ a = b := eqv_ls eqv_row a b
theorem eqv_told (a b : List Nat) : PyData.eqv (toldD a) (toldD b) = true ↔ a = b := eqv_tp (fun i j => by rw [eqv_int]; omega) a b
theorem depth_all {α : Type} {g : α → PyData} {k : Nat} (h : ∀ a, (g a).depth ≤ k) : ∀ as : List α, PyData.depthAll (as.map g) ≤ k
  | [] => by simp [PyData.depthAll]
  | a :: as => by
    rw [List.map_cons]
    unfold PyData.depthAll
    have := depth_all h as
    have := h a
    omega
theorem depth_row (r : List Int) : (ldat r).depth ≤ 1 := by
  unfold ldat PyData.depth
  have := depth_all (g := PyData.int) (k := 0) (fun a => by simp [PyData.depth]) r
  omega
theorem depth_rows (r : List (List Int)) : (rowsD r).depth ≤ 64 := by
  unfold rowsD PyData.depth
  have := depth_all (g := ldat) (k := 1) depth_row r
  omega
theorem depth_told (t : List Nat) : (toldD t).depth ≤ 64 := by
  unfold toldD PyData.depth
  have := depth_all (g := fun n : Nat => PyData.int (n : Int)) (k := 0) (fun a => by simp [PyData.depth]) t
  omega
theorem eqv_dec {α : Type} [DecidableEq α] {g : α → PyData} (h : ∀ a b, PyData.eqv (g a) (g b) = true ↔ a = b) (a b : α) : PyData.eqv (g a) (g b) = decide (a = b) := by
  by_cases e : a = b
  · rw [decide_eq_true e]; exact (h a b).mpr e
  · rw [decide_eq_false e]
    cases c : PyData.eqv (g a) (g b) with
    | false => rfl
    | true => exact absurd ((h a b).mp c) e
section
variable {P : Program} {w : World} {K : PySem.W.Frag} {mg : Str → Option Value} {base : Heap} {f : Addr} {fd : FuncData} {cR cF cW cU cY : Addr}
theorem scWE : FnScope NTwo ["self", "other"] (defScope (inClass (top 53) 4)) := ⟨rfl, rfl, rfl, by decide +kernel, rfl, by decide +kernel, by decide +kernel⟩
theorem scUE : FnScope NTwo ["self", "other"] (defScope (inClass (top 54) 5)) := ⟨rfl, rfl, rfl, by decide +kernel, rfl, by decide +kernel, by decide +kernel⟩
abbrev spWE (cW : Addr) : Sp := SpD (fun d : List (List Int) × List (List Int) => [Wo cW d.1, Wo cW d.2]) (fun _ => True) (fun d => IsB (decide (d.1 = d.2)))
abbrev spUE (cU : Addr) : Sp := SpD (fun d : List Nat × List Nat => [Ru cU d.1, Ru cU d.2]) (fun _ => True) (fun d => IsB (decide (d.1 = d.2)))
theorem body_we (b : Fb mg) (r : WoF mg K cW) (d : List (List Int) × List (List Int)) : BodyOk P w K mg base NTwo "Worths.__eq__" (defScope (inClass (top 53) 4)) (defBody (inClass (top 53) 4)) 0 (padG NTwo ([Wo cW d.1, Wo cW d.2].map .is)) (IsB (decide (d.1 = d.2))) none := by
  intro f cdv Ar outer s H E fam
  refine ⟨none, ?_, fun _ h => nomatch h⟩
  exact b_ret (TyE.eq (e_and (e_isC (fun _ => b.isi) (fun _ => rfl) r.isc (vr 1) (e_cls (fun _ => r.glo))) (fun _ => e_one (v_eqD fam (e_cells r (fun _ => rfl) (vr 0)) (e_cells r (fun _ => rfl) (vr 1)) (dq_rows _) (dq_rows _) (depth_rows _) (depth_rows _) (eqv_dec eqv_rows d.1 d.2))) (fun h => nomatch h)) rfl) OwnAt.none
theorem body_ue (b : Fb mg) (r : RuF mg K cU) (d : List Nat × List Nat) : BodyOk P w K mg base NTwo "Rule.__eq__" (defScope (inClass (top 54) 5)) (defBody (inClass (top 54) 5)) 0 (padG NTwo ([Ru cU d.1, Ru cU d.2].map .is)) (IsB (decide (d.1 = d.2))) none := by
  intro f cdv Ar outer s H E fam
  refine ⟨none, ?_, fun _ h => nomatch h⟩
  exact b_ret (TyE.eq (e_and (e_isC (fun _ => b.isi) (fun _ => rfl) r.isc (vr 1) (e_cls (fun _ => r.glo))) (fun _ => e_one (v_eqD fam (e_outs r (fun _ => rfl) (vr 0)) (e_outs r (fun _ => rfl) (vr 1)) (dq_told _) (dq_told _) (depth_told _) (depth_told _) (eqv_dec eqv_told d.1 d.2))) (fun h => nomatch h)) rfl) OwnAt.none
end
end Tf
end
section
/-! == of lists, != of tuples whose items are own instances. -/
namespace Ow
open PySem PySem.SeqAt
open AutoSeq1 (wpAny_loadPart')
open MeetsSeq MeetsSeq2 MeetsSeq3 SeqRoads2
section
variable {prog : Program} {w : World} {A : Around} {R : Result → Shared → Prop}
theorem tuple_neG (l b : Addr) (items items2 : Array Value) (n n2 : Nat) (dd dd2 : Option Addr) (sl sl2 : Array (Option Value)) (hsz : items.size = items2.size) (I : Nat → Shared → Prop)
    (turn : ∀ i (h1 : i < items.size) (h2 : i < items2.size) s, I i s → wpAny (model prog w) A.in1 (eqBool items[i] items2[i]) (fun r s' => r = true ∧ I (i + 1) s') (fun e s' => R (.error e) s') s)
    (fin : ∀ s, I items.size s → R (.ok (.ret (.bool false))) s) {s : Shared} (hl1 : s.heap.get? l = some { cls := .type "tuple", dict := dd, data := .seq items n, slots := sl }) (hb1 : s.heap.get? b = some { cls := .type "tuple", dict := dd2, data := .seq items2 n2, slots := sl2 }) (h : I 0 s) :
    wpAny (model prog w) A.in1 (Builtin.«tuple.__ne__» ⟨[.ref l, .ref b], []⟩) (GQ.FinOf prog w A R) (fun e s' => R (.error e) s') s := by
  have f2 := AutoSeq1.sub_tuple_tuple
  have hZ : (items.toList.zip items2.toList).length = items.size := by simp [hsz]
  have h0 := h
  obtain ⟨hp, g, d, tk, os⟩ := s
  wp_walk using wpAny_loadPart' hl1, wpAny_loadPart' hb1, wpAny_forIn_list _ (fun rest b s' => b.1 = none ∧ ∃ i, rest = (items.toList.zip items2.toList).drop i ∧ i ≤ items.size ∧ I i s') _
  case turn =>
    rintro ⟨y, x⟩ rest b s' ⟨hb', i, hz, hi, hI⟩
    have hlt : i < (items.toList.zip items2.toList).length := by
      rcases Nat.lt_or_ge i (items.toList.zip items2.toList).length with h' | h'
      · exact h'
      · rw [List.drop_of_length_le h'] at hz; cases hz
    have h1 : i < items.size := hZ ▸ hlt
    have h2 : i < items2.size := hsz ▸ h1
    rw [List.drop_eq_getElem_cons hlt] at hz
    injection hz with hyx hrest
    have hy : y = items[i] := by have := congrArg Prod.fst hyx; simpa using this
    have hx : x = items2[i] := by have := congrArg Prod.snd hyx; simpa using this
    subst hy hx
    refine wpAny_bind (wpAny_mono (turn i h1 h2 s' hI) (fun r s2 q2 => ?_) fun _ _ x => x)
    obtain ⟨hr, q2⟩ := q2
    subst hr
    wp_walk
    exact ⟨rfl, i + 1, hrest, h1, q2⟩
  case fin =>
    rintro ⟨b1, b2⟩ s' ⟨hb', i, hz, hi, hI⟩
    simp only at hb'
    subst hb'
    have hge : items.size ≤ i := by
      rcases Nat.lt_or_ge i (items.toList.zip items2.toList).length with h' | h'
      · rw [List.drop_eq_getElem_cons h'] at hz; cases hz
      · exact hZ ▸ h'
    have hi' : i = items.size := by omega
    have hR : R (.ok (.ret (.bool false))) s' := fin s' (hi' ▸ hI)
    wp_walk
    simpa [Builtin.Tuple.tupleCompareSizes, hsz] using hR
  case h =>
    exact ⟨rfl, 0, rfl, Nat.zero_le _, h0⟩
end
section
variable {prog : Program} {w : World} {A : Around} {E : Value → Shared → Prop} {s : Shared}
theorem rc_tupNeG {l b : Addr} {items items2 : Array Value} {Q : Value → Shared → Prop} (hsz : items.size = items2.size) (hu : A.units < cLine) (I : Nat → Shared → Prop)
    (hl : s.heap.IsTuple l items) (hb : s.heap.IsTuple b items2)
    (turn : ∀ i (h1 : i < items.size) (h2 : i < items2.size) s, I i s → wpAny (model prog w) A.in1 (eqBool items[i] items2[i]) (fun r s' => r = true ∧ I (i + 1) s') E s)
    (fin : ∀ s, I items.size s → Q (.bool false) s) (h : I 0 s) : wpAny (model prog w) A (richCompare .NotEq (.ref l) (.ref b)) Q E s := by
  obtain ⟨⟨cls, dd, data, sl⟩, ho, hc, n, hd⟩ := id hl
  obtain ⟨⟨cls2, dd2, data2, sl2⟩, ho2, hc2, n2, hd2⟩ := id hb
  simp only at hc hd hc2 hd2
  subst hc hd hc2 hd2
  refine wpAny_richCompare_same_room (op := .NotEq) ⟨_, ho, rfl⟩ ⟨_, ho2, rfl⟩ F.slot_tuple_ne (GQ.call_here F.slot_tuple_ne ⟨_, ho, rfl⟩ F.entry_tuple_ne (F.args_tuple_ne_2 _ _) ?_) hu
  exact tuple_neG (R := wants (fun v s' => v ≠ .notImplemented ∧ Q v s') E) l b items items2 n n2 dd dd2 sl sl2 hsz I turn (fun s' q => ⟨(fun x => nomatch x), fin s' q⟩) ho ho2 h
end
end Ow
end
section
/-! The same as readings, as rules. -/
namespace Ow
open PySem PySem.Spec PyProof.Rows L2
open Evl (Ex)
section
variable {X : Cx} {n : Nat} {D : Eqv} {C g : Addr} {sp : Sp}
/-- != gives False for what D says -/
def RnG (X : Cx) (n : Nat) (D : Eqv) : Prop :=
  ∀ (A : Around) (pins : List (Addr × Obj)) (s : Shared) (σ : L2.St) (H : Hp) (x y : V) (u v : Value), Sub X n A → Inv X pins σ H s → RelV x u → RelV y v → D x y H →
    wpAny (model X.prog X.w) A (richCompare .NotEq u v) (fun r s' => r = .bool false ∧ ∃ H', Inv X pins σ H' s' ∧ Ext H H') X.xe s
theorem rnG_tup (hD : Mon D) (h : EqG X n D) : RnG X (n + 1) (DTup X.K D) := by
  intro A pins s σ H x y u v sb I rx ry d
  obtain ⟨a, b, xs, ys, rfl, rfl, ha, hb, p⟩ := d
  cases rx
  cases ry
  obtain ⟨its, r, e, z⟩ := I.tuple ha
  obtain ⟨its2, r2, e2, z2⟩ := I.tuple hb
  have hsz : its.toArray.size = its2.toArray.size := by rw [List.size_toArray, List.size_toArray, ← r.length, ← r2.length]; exact p.1
  exact rc_tupNeG hsz sb.room.units0 (fun _ s' => LoopI X pins σ H s') e e2 (fun i h1 h2 s' q => turnG hD h sb p r r2 i h1 h2 s' q) (fun s' q => ⟨rfl, q⟩) ⟨H, I, Ext.rfl'⟩
def rNeG (D : Eqv) : R2 := fun x y H Q => D x y H ∧ ∀ H', Ext H H' → Q (.bl false) H'
theorem op_neG (h : RnG X n D) (hr : Room n X.A) : OpR X (compareOp .NotEq) (rNeG D) := by
  intro pins s σ H x y v u Q I rx ry hq
  obtain ⟨d, q⟩ := hq
  show wpAny (model X.prog X.w) X.A (richCompare .NotEq v u) (EP X pins σ Q) X.xe s
  refine wpAny_mono (h X.A pins s σ H x y v u ⟨hr, rfl⟩ I rx ry d) (fun r s' z => ?_) fun _ _ x => x
  obtain ⟨hr', H', I', e⟩ := z
  subst hr'
  exact ⟨.bl false, H', I', rfl, q H' e⟩
/-- instances that the own == finds equal, whatever comes besides -/
def DEq (C : Addr) (sp : Sp) : Eqv := fun x y H => ∃ a b dx dy fs gs, x = .ref a ∧ y = .ref b ∧ H a = some (.ins C dx fs) ∧ H b = some (.ins C dy gs) ∧ ∀ H1, Ext H H1 → sp [x, y] H1 (fun z H' => z = .bl true ∧ Ext H1 H') E0
theorem mon_eq : Mon (DEq C sp) := fun x y H H' e d => by
  obtain ⟨a, b, dx, dy, fs, gs, hx, hy, h1, h2, r⟩ := d
  exact ⟨a, b, dx, dy, fs, gs, hx, hy, e _ _ h1, e _ _ h2, fun H1 e1 => r H1 (e.trans e1)⟩
theorem eqG_own (hs : PySem.W.findIn X.K (.ref C) "__eq__" = some (some (.ref g))) (hf : PySem.W.isFn X.K (.ref g) = true) (F : FnR X.prog X.w X.K X.mg X.base CX0 n g sp) : EqG X n (DEq C sp) := by
  refine RcG.eqG (fun A pins s σ H x y u v sb I rx ry d => ?_) fun x y H d => let ⟨a, b, _, _, _, _, hx, hy, _⟩ := d; ⟨a, b, hx, hy⟩
  obtain ⟨a, b, dx, dy, fs, gs, rfl, rfl, ha, hb', hr⟩ := d
  cases rx
  cases ry
  obtain ⟨od, J⟩ := inst_of I ha
  obtain ⟨od', J'⟩ := inst_of I hb'
  obtain ⟨m, hF⟩ := I.fr
  refine PySem.W.cmp_K (op := .Eq) (tb := .ref C) sb.room.units0 hF I.ok.mod.kin J J'.type (by simp [PySem.W.notFirst]) hs hf ?_
  have e0 : Env0 X.prog X.w X.K X.mg X.base A X.stack s H := by
    have e := I.env0
    exact ⟨by rw [sb.fr]; exact e.frames, e.mod, e.bs, e.bsz, e.funs, e.frf, e.hok, e.bare⟩
  refine wpAny_mono (wpAny_call (SlX.run_at (us := [.ref a, .ref b]) (ws := [.ref a, .ref b]) F sb.room e0 pass0 I (.cons rfl (.cons rfl .nil)) (hr H Ext.rfl'))) (fun w s' z => ?_) fun _ _ x => x
  obtain ⟨z', H', I', rz, ez, ex⟩ := z
  subst ez
  cases rz
  exact ⟨rfl, H', I', ex⟩
end
end Ow
namespace Ty
open PySem PySem.Spec PyProof.Rows L2
open Evl (Ex)
section
variable {ι : Type} {X : ι → Cx} {Ga Gb Gc : List Sl} {a c : Expr} {pos : Pos} {Pr : Program} {w : World} {K : PySem.W.Frag} {mg : Str → Option Value} {base : Heap} {j k : Nat} {C : Addr} {D : Type} {A : D → List Pd} {S : D → Prop} {R : D → Pd} {α : Type} {it : α → Pd}
/-- what makes the items equal to themselves by the own == -/
structure SelfEq (C : Addr) (A : D → List Pd) (S : D → Prop) (R : D → Pd) (it : α → Pd) (qs : List α) : Prop where
  ex : ∀ q ∈ qs, ∃ d Fs, it q = In C Fs ∧ A d = [In C Fs, In C Fs] ∧ S d ∧ R d = IsB true
theorem SelfEq.prs {qs : List α} (h : SelfEq C A S R it qs) {G H : Hp} (e : Ex G H) : ∀ {qs' : List α}, (∀ q ∈ qs', q ∈ qs) → ∀ {xs ys : List V}, AllP (qs'.map it) xs G → AllP (qs'.map it) ys G → Prs (Ow.DEq C (SpD A S R)) xs ys H
  | [], _, [], [], _, _ => Prs.nil
  | q :: qs', hq, x :: xs, y :: ys, hx, hy => by
    refine Prs.cons ?_ (SelfEq.prs h e (fun z hz => hq z (List.mem_cons_of_mem _ hz)) hx.2 hy.2)
    obtain ⟨d, Fs, e1, e2, hs, hR⟩ := h.ex q (hq q List.mem_cons_self)
    have px := hx.1
    have py := hy.1
    rw [e1] at px py
    have px' := px
    have py' := py
    obtain ⟨p, dx, vs, rfl, hp, _⟩ := px
    obtain ⟨p2, dx2, vs2, rfl, hp2, _⟩ := py
    refine ⟨p, p2, dx, dx2, _, _, rfl, rfl, e _ _ hp, e _ _ hp2, fun H1 e3 => ⟨d, G, hs, Ty.Ex.trans e e3, by rw [e2]; exact ⟨px', py', trivial⟩, fun v G' H' t r => ?_⟩⟩
    rw [hR] at r
    exact ⟨r, t.ex⟩
  | [], _, _ :: _, _, hx, _ => hx.elim
  | [], _, [], _ :: _, _, hy => hy.elim
  | _ :: _, _, [], _, hx, _ => hx.elim
  | _ :: _, _, _ :: _, [], _, hy => hy.elim
theorem ext_step {H H' : Hp} {G : Hp} (e : Ex G H) (h : Ext H H') : Step none G H G H' :=
  ⟨Ex.refl G, fun a o g => h a o (e a o g), fun a o _ g => h a o g, fun a o g => .inl ⟨o, g⟩, fun a z _ => nomatch z⟩
/-- l == m, lists of equal own instances -/
theorem v_eqL {qs : List α} (fam : Fam X Pr w K mg base j) (L : Sf Pr w K mg base k C "__eq__" (SpD A S R)) (se : SelfEq C A S R it qs) (ha : TyE X Ga a (Ls (qs.map it)) Gb) (hb : TyE X Gb c (Ls (qs.map it)) Gc) (hk : k + 1 ≤ j := by decide) (hm : behindInMarks .Eq c = false := by first | exact nomark _ | rfl) : TyE X Ga (.Compare a [.Eq] [c] pos) (IsB true) Gc := by
  obtain ⟨g, F, h1, h2⟩ := L.ex
  refine e_cmp (r := rEqG (DList (Ow.DEq C (SpD A S R)))) (fun i => op_eqG (rcG_list Ow.mon_eq (Ow.eqG_own (n := k) (g := g) (by rw [fam.K i]; exact h1) (by rw [fam.K i]; exact h2) (by rw [fam.prog i, fam.w i, fam.K i, fam.mg i, fam.base i]; exact F))) ((fam.room i).mono hk)) ha hb (fun x y G H Q e p1 p2 kk => ?_) hm
  obtain ⟨p, xs, rfl, hp, px⟩ := p1
  obtain ⟨p', ys, rfl, hp', py⟩ := p2
  exact ⟨⟨p, p', xs, ys, rfl, rfl, e _ _ hp, e _ _ hp', se.prs e (fun _ h => h) px py⟩, fun H' ex => kk _ G H' (ext_step e ex) rfl⟩
/-- s != t, tuples of equal own instances -/
theorem t_neT {qs : List α} (fam : Fam X Pr w K mg base j) (L : Sf Pr w K mg base k C "__eq__" (SpD A S R)) (se : SelfEq C A S R it qs) (ha : TyE X Ga a (Tp (qs.map it)) Gb) (hb : TyE X Gb c (Tp (qs.map it)) Gc) (hk : k + 1 ≤ j := by decide) (hm : behindInMarks .NotEq c = false := by first | exact nomark _ | rfl) : TyT X Ga (.Compare a [.NotEq] [c] pos) false Gc := by
  obtain ⟨g, F, h1, h2⟩ := L.ex
  refine t_cmp (r := Ow.rNeG (DTup K (Ow.DEq C (SpD A S R)))) (fun i => by
    have := Ow.op_neG (X := X i) (Ow.rnG_tup Ow.mon_eq (Ow.eqG_own (n := k) (g := g) (by rw [fam.K i]; exact h1) (by rw [fam.K i]; exact h2) (by rw [fam.prog i, fam.w i, fam.K i, fam.mg i, fam.base i]; exact F))) ((fam.room i).mono hk)
    rw [fam.K i] at this
    exact this) ha hb (fun x y G H Q e p1 p2 kk => ?_) hm
  obtain ⟨p, xs, rfl, hp, px⟩ := p1
  obtain ⟨p', ys, rfl, hp', py⟩ := p2
  exact ⟨⟨p, p', xs, ys, rfl, rfl, SqT.of (e _ _ hp), SqT.of (e _ _ hp'), se.prs e (fun _ h => h) px py⟩, fun H' ex => kk _ G H' (ext_step e ex) rfl⟩
end
end Ty
end
section
/-! zip whose pairs go to a name: the pair that was given last may be held. -/
namespace Ow
open PySem PySem.Spec PyProof.Rows L2
open Sem (wp)
abbrev ZipG (h : Heap) (z TI TO : Addr) (f0 : Value) (b : Bool) : Prop :=
  h.get? z = some { cls := .type "zip", dict := none, data := .fields #[f0, .bool b, .bool false, .ref TI, .ref TO], slots := #[] }
section
variable {prog : Program} {w : World} {A : Around} {E : Value → Shared → Prop} {s : Shared}
theorem wpAny_alive {M : Model} {a : Addr} {Q : Option Obj → Shared → Prop} (h : Q (s.heap.get? a) s) : wpAny M A (loadIfAlive a) Q E s := fun Γ p hΓ => by
  show wp _ _ (.loadIfAlive a .pure) _ _ _ _
  rw [Sem.wp_loadIfAlive]
  exact (wpAny_pure h : wpAny M A (pure (s.heap.get? a)) Q E s) Γ p hΓ
/-- what the zip holds of the pair given last -/
def Gave (f0 : Value) : Prop := f0 = .none ∨ ∃ a : Nat, f0 = rawInt a
theorem isFree {z TI TO : Addr} {f0 : Value} {b : Bool} {Q : Bool → Shared → Prop} (hz : ZipG s.heap z TI TO f0 b) (hg : Gave f0)
    (h : ∀ r h' b', ZipG h' z TI TO f0 b' → Heap.SameBut z s.heap h' → Q r { s with heap := h' }) : wpAny (model prog w) A (Builtin.SmallTypes.ownedTupleIsFree (.ref z)) Q E s := by
  have same : Heap.SameBut z s.heap s.heap := ⟨rfl, fun _ _ => rfl⟩
  unfold Builtin.SmallTypes.ownedTupleIsFree
  rcases hg with rfl | ⟨a, rfl⟩
  · exact wpAny_bind (wpAny_field hz rfl (x := .none) rfl (wpAny_pure (h true s.heap b hz same)))
  · refine wpAny_bind (wpAny_field hz rfl (x := rawInt a) rfl ?_)
    show wpAny _ _ (loadIfAlive (Int.toNat (a : Int)) >>= _) _ _ _
    refine wpAny_bind (wpAny_alive ?_)
    split
    · exact wpAny_bind (wpAny_pure (wpAny_pure (h true s.heap b hz same)))
    · refine wpAny_bind (wpAny_field hz rfl (x := .bool b) rfl ?_)
      dsimp only
      split
      · exact wpAny_bind (wpAny_setField_rec hz (by simp) fun h' hz' hs' => wpAny_pure (h false h' true hz' hs'))
      · exact wpAny_pure (h false s.heap b hz same)
theorem zip_next_held {z TI TO i1 i2 l1 l2 : Addr} {k1 k2 : Nat} {xs ys : Array Value} {x y a b f0 : Value} {bb : Bool} {Q : Value → Shared → Prop} (D : ZipApart z TI TO i1 i2 l1 l2)
    (hz : ZipG s.heap z TI TO f0 bb) (hg : Gave f0) (hTI : IsPair s.heap TI (.ref i1) (.ref i2)) (hTO : IsPair s.heap TO a b)
    (h1 : s.heap.IsListIter i1 l1 k1) (h2 : s.heap.IsListIter i2 l2 k2) (hl1 : s.heap.IsList l1 xs) (hl2 : s.heap.IsList l2 ys) (hx : xs[k1]? = some x) (hy : ys[k2]? = some y)
    (hQ : ∀ h' f1 b1 u v, ZipG h' z TI TO f1 b1 → Gave f1 → IsPair h' TO u v → h'.IsListIter i1 l1 (k1 + 1) → h'.IsListIter i2 l2 (k2 + 1) → IsPair h' s.heap.objs.size x y → h'.objs.size = s.heap.objs.size + 1 →
      (∀ c o, c ≠ z → c ≠ TO → c ≠ i1 → c ≠ i2 → s.heap.get? c = some o → h'.get? c = some o) → Q (.ref s.heap.objs.size) { s with heap := h' }) :
    wpAny (model prog w) A (Builtin.«zip.__next__» ⟨[.ref z], []⟩) (fun fin s' => ∃ v, fin = .done (.ret v) ∧ Q v s') E s := by
  show wpAny _ _ (field (.ref z) 2 >>= _) _ _ _
  refine wpAny_bind (wpAny_field hz rfl (x := .bool false) rfl ?_)
  show wpAny _ _ (field (.ref z) 3 >>= _) _ _ _
  refine wpAny_bind (wpAny_field hz rfl (x := .ref TI) rfl ?_)
  refine wpAny_bind (wpAny_seqItems hTI rfl ?_)
  show wpAny _ _ (Builtin.SmallTypes.ownedTupleIsFree (.ref z) >>= _) _ _ _
  refine wpAny_bind (isFree hz hg fun r h₀ b' hz₀ hs₀ => ?_)
  have hTO₀ : IsPair h₀ TO a b := hs₀.extBut _ _ D.TOz hTO
  have h1₀ : h₀.IsListIter i1 l1 k1 := h1.extBut hs₀.extBut D.i1z
  have h2₀ : h₀.IsListIter i2 l2 k2 := h2.extBut hs₀.extBut D.i2z
  have hl1₀ : h₀.IsList l1 xs := hl1.extBut hs₀.extBut D.l1z
  have hl2₀ : h₀.IsList l2 ys := hl2.extBut hs₀.extBut D.l2z
  cases r with
  | true =>
    simp only [if_true]
    refine wpAny_bind (wpAny_rule ?_)
    refine wpAny_bind (wpAny_field hz₀ rfl (x := .ref TO) rfl ?_)
    refine wpAny_bind (wpAny_setField_rec hz₀ (by simp) fun h₁ hz₁ hs₁ => ?_)
    replace hz₁ : ZipG h₁ z TI TO .ellipsis b' := hz₁
    refine wpAny_bind ?_
    simp only [List.zipIdx_cons, List.zipIdx_nil, List.forIn_cons, List.forIn_nil]
    refine wpAny_bind (wpAny_bind (wpAny_onRaise ?_))
    show wpAny _ _ (Builtin.SmallTypes.nextOf (.ref i1) >>= _) _ _ _
    refine wpAny_bind (wpAny_nextOf_list_item (h1₀.extBut hs₁.extBut D.i1z) (hl1₀.extBut hs₁.extBut D.l1z) hx fun h₂ h1₂ hs₂ => wpAny_pure ?_)
    have hTO₂ : IsPair h₂ TO a b := hs₂.extBut _ _ D.TOi1 (hs₁.extBut _ _ D.TOz hTO₀)
    refine wpAny_bind (wpAny_seqItems hTO₂ rfl ?_)
    refine wpAny_bind (wpAny_updateSeq_pair hTO₂ fun h₃ hTO₃ hs₃ => ?_)
    replace hTO₃ : IsPair h₃ TO x b := hTO₃
    refine wpAny_bind (wpAny_letGo (wpAny_pure ?_))
    refine wpAny_bind (wpAny_bind (wpAny_onRaise ?_))
    show wpAny _ _ (Builtin.SmallTypes.nextOf (.ref i2) >>= _) _ _ _
    refine wpAny_bind (wpAny_nextOf_list_item (((h2₀.extBut hs₁.extBut D.i2z).extBut hs₂.extBut D.i12.symm).extBut hs₃.extBut D.TOi2.symm)
      (((hl2₀.extBut hs₁.extBut D.l2z).extBut hs₂.extBut D.l2i1).extBut hs₃.extBut D.l2TO) hy fun h₄ h2₄ hs₄ => wpAny_pure ?_)
    have hTO₄ : IsPair h₄ TO x b := hs₄.extBut _ _ D.TOi2 hTO₃
    refine wpAny_bind (wpAny_seqItems hTO₄ rfl ?_)
    refine wpAny_bind (wpAny_updateSeq_pair hTO₄ fun h₅ hTO₅ hs₅ => ?_)
    replace hTO₅ : IsPair h₅ TO x y := hTO₅
    refine wpAny_bind (wpAny_letGo (wpAny_pure (wpAny_pure ?_)))
    refine wpAny_bind (wpAny_seqItems hTO₅ rfl ?_)
    refine wpAny_bind (wpAny_newTuple ?_)
    have hsz : h₅.objs.size = s.heap.objs.size := by rw [hs₅.1, hs₄.1, hs₃.1, hs₂.1, hs₁.1, hs₀.1]
    have hz₅ : ZipG h₅ z TI TO .ellipsis b' := hs₅.extBut _ _ D.TOz.symm (hs₄.extBut _ _ D.i2z.symm (hs₃.extBut _ _ D.TOz.symm (hs₂.extBut _ _ D.i1z.symm hz₁)))
    have hk₅ : ∀ c o, c ≠ z → c ≠ TO → c ≠ i1 → c ≠ i2 → s.heap.get? c = some o → h₅.get? c = some o := fun c o c1 c2 c3 c4 e =>
      hs₅.extBut _ _ c2 (hs₄.extBut _ _ c4 (hs₃.extBut _ _ c2 (hs₂.extBut _ _ c3 (hs₁.extBut _ _ c1 (hs₀.extBut _ _ c1 e)))))
    have h1₅ : h₅.IsListIter i1 l1 (k1 + 1) := ((h1₂.extBut hs₃.extBut D.TOi1.symm).extBut hs₄.extBut D.i12).extBut hs₅.extBut D.TOi1.symm
    have h2₅ : h₅.IsListIter i2 l2 (k2 + 1) := h2₄.extBut hs₅.extBut D.TOi2.symm
    have hzlt : z < h₅.objs.size := Heap.lt_size hz₅
    show wpAny _ _ (Builtin.SmallTypes.ownedTupleHandOut (.ref z) (.ref h₅.objs.size) >>= _) _ _ _
    refine wpAny_bind ?_
    unfold Builtin.SmallTypes.ownedTupleHandOut
    have hz₆ : ZipG (h₅.push { cls := .type "tuple", data := .seq #[x, y] }) z TI TO .ellipsis b' := Heap.get?_push_of_some _ hz₅
    refine wpAny_bind (wpAny_setField_rec hz₆ (by simp) fun h₇ hz₇ hs₇ => ?_)
    replace hz₇ : ZipG h₇ z TI TO (rawInt h₅.objs.size) b' := hz₇
    refine wpAny_setField_rec hz₇ (by simp) fun h₈ hz₈ hs₈ => ?_
    replace hz₈ : ZipG h₈ z TI TO (rawInt h₅.objs.size) false := hz₈
    have up : ∀ c o, c ≠ z → h₅.get? c = some o → h₈.get? c = some o := fun c o c1 e => hs₈.extBut _ _ c1 (hs₇.extBut _ _ c1 (Heap.get?_push_of_some _ e))
    have hT₈ : IsPair h₈ h₅.objs.size x y := hs₈.extBut _ _ (Nat.ne_of_gt hzlt) (hs₇.extBut _ _ (Nat.ne_of_gt hzlt) (Heap.get?_push_size _ rfl))
    have hz8 : h₈.objs.size = h₅.objs.size + 1 := by rw [hs₈.1, hs₇.1, Heap.size_push]
    rw [hsz] at hz₈ hT₈ hz8
    refine wpAny_pure ⟨_, rfl, ?_⟩
    show Q (.ref h₅.objs.size) _
    rw [hsz]
    exact hQ h₈ _ _ _ _ hz₈ (.inr ⟨_, rfl⟩) (up _ _ D.TOz hTO₅) (h1₅.at fun o e => up _ o D.i1z e) (h2₅.at fun o e => up _ o D.i2z e) hT₈ hz8 fun c o c1 c2 c3 c4 e => up c o c1 (hk₅ c o c1 c2 c3 c4 e)
  | false =>
    simp only [Bool.false_eq_true, if_false]
    refine wpAny_bind ?_
    simp only [List.forIn_cons, List.forIn_nil, ← Array.forIn_toList]
    refine wpAny_bind (wpAny_bind (wpAny_holding ?_))
    show wpAny _ _ (Builtin.SmallTypes.nextOf (.ref i1) >>= _) _ _ _
    refine wpAny_bind (wpAny_nextOf_list_item h1₀ hl1₀ hx fun h₂ h1₂ hs₂ => wpAny_pure (wpAny_pure ?_))
    refine wpAny_bind (wpAny_bind (wpAny_holding ?_))
    show wpAny _ _ (Builtin.SmallTypes.nextOf (.ref i2) >>= _) _ _ _
    refine wpAny_bind (wpAny_nextOf_list_item (h2₀.extBut hs₂.extBut D.i12.symm) (hl2₀.extBut hs₂.extBut D.l2i1) hy fun h₄ h2₄ hs₄ => wpAny_pure (wpAny_pure (wpAny_pure ?_)))
    refine wpAny_bind (wpAny_newTuple (hsz := by show 2 ≤ sizeLine; decide) ?_)
    have hsz : h₄.objs.size = s.heap.objs.size := by rw [hs₄.1, hs₂.1, hs₀.1]
    have hz₄ : ZipG h₄ z TI TO f0 b' := hs₄.extBut _ _ D.i2z.symm (hs₂.extBut _ _ D.i1z.symm hz₀)
    have hTO₄ : IsPair h₄ TO a b := hs₄.extBut _ _ D.TOi2 (hs₂.extBut _ _ D.TOi1 hTO₀)
    have h1₄ : h₄.IsListIter i1 l1 (k1 + 1) := h1₂.extBut hs₄.extBut D.i12
    refine wpAny_pure ⟨_, rfl, ?_⟩
    show Q (.ref h₄.objs.size) _
    have hT : IsPair (h₄.push { cls := .type "tuple", data := .seq #[x, y] }) h₄.objs.size x y := Heap.get?_push_size _ rfl
    have hs : (h₄.push { cls := .type "tuple", data := .seq #[x, y] }).objs.size = h₄.objs.size + 1 := Heap.size_push ..
    rw [hsz] at hT hs ⊢
    exact hQ _ _ _ _ _ (Heap.get?_push_of_some _ hz₄) hg (Heap.get?_push_of_some _ hTO₄) (h1₄.at fun o e => Heap.get?_push_of_some _ e) (h2₄.at fun o e => Heap.get?_push_of_some _ e) hT hs fun c o c1 c2 c3 c4 e => Heap.get?_push_of_some _ (hs₄.extBut _ _ c4 (hs₂.extBut _ _ c3 (hs₀.extBut _ _ c1 e)))
theorem zip_next_endH {z TI TO i1 i2 l1 l2 : Addr} {k1 k2 : Nat} {xs ys : Array Value} {a b f0 : Value} {bb : Bool} {Q : Fin → Shared → Prop} (hh : A.handled = none) (D : ZipApart z TI TO i1 i2 l1 l2)
    (hz : ZipG s.heap z TI TO f0 bb) (hg : Gave f0) (hTI : IsPair s.heap TI (.ref i1) (.ref i2)) (hTO : IsPair s.heap TO a b)
    (h1 : s.heap.IsListIter i1 l1 k1) (h2 : s.heap.IsListIter i2 l2 k2) (hl1 : s.heap.IsList l1 xs) (hl2 : s.heap.IsList l2 ys) (hend : xs[k1]? = none ∨ ys[k2]? = none)
    (hE : ∀ h' e, (∀ c o, c ≠ z → c ≠ TO → c ≠ i1 → c ≠ i2 → s.heap.get? c = some o → h'.get? c = some o) → (∃ o, h'.get? e = some o ∧ o.cls = .type "StopIteration") → E (.ref e) { s with heap := h' }) :
    wpAny (model prog w) A (Builtin.«zip.__next__» ⟨[.ref z], []⟩) Q E s := by
  show wpAny _ _ (field (.ref z) 2 >>= _) _ _ _
  refine wpAny_bind (wpAny_field hz rfl (x := .bool false) rfl ?_)
  show wpAny _ _ (field (.ref z) 3 >>= _) _ _ _
  refine wpAny_bind (wpAny_field hz rfl (x := .ref TI) rfl ?_)
  refine wpAny_bind (wpAny_seqItems hTI rfl ?_)
  show wpAny _ _ (Builtin.SmallTypes.ownedTupleIsFree (.ref z) >>= _) _ _ _
  refine wpAny_bind (isFree hz hg fun r h₀ b' hz₀ hs₀ => ?_)
  have hTO₀ : IsPair h₀ TO a b := hs₀.extBut _ _ D.TOz hTO
  have h1₀ : h₀.IsListIter i1 l1 k1 := h1.extBut hs₀.extBut D.i1z
  have h2₀ : h₀.IsListIter i2 l2 k2 := h2.extBut hs₀.extBut D.i2z
  have hl1₀ : h₀.IsList l1 xs := hl1.extBut hs₀.extBut D.l1z
  have hl2₀ : h₀.IsList l2 ys := hl2.extBut hs₀.extBut D.l2z
  cases r with
  | true =>
    simp only [if_true]
    refine wpAny_bind (wpAny_rule ?_)
    refine wpAny_bind (wpAny_field hz₀ rfl (x := .ref TO) rfl ?_)
    refine wpAny_bind (wpAny_setField_rec hz₀ (by simp) fun h₁ hz₁ hs₁ => ?_)
    replace hz₁ : ZipG h₁ z TI TO .ellipsis b' := hz₁
    refine wpAny_bind ?_
    simp only [List.zipIdx_cons, List.zipIdx_nil, List.forIn_cons, List.forIn_nil]
    refine wpAny_bind (wpAny_bind (wpAny_onRaise ?_))
    show wpAny _ _ (Builtin.SmallTypes.nextOf (.ref i1) >>= _) _ _ _
    cases hx : xs[k1]? with
    | none =>
      refine wpAny_bind (wpAny_nextOf_list_end hh (h1₀.extBut hs₁.extBut D.i1z) (hl1₀.extBut hs₁.extBut D.l1z) hx fun h₂ e hs₂ he => ?_)
      obtain ⟨oe, hoe, hce⟩ := he
      have hz₂ : ZipG h₂ z TI TO .ellipsis b' := hs₂ _ _ D.i1z.symm hz₁
      have hez : e ≠ z := fun x => by subst x; rw [hz₂] at hoe; cases hoe; simp at hce
      refine wpAny_setField_rec hz₂ (by simp) fun h₃ _ hs₃ => hE h₃ e (fun c o c1 _ c3 _ x => hs₃.extBut _ _ c1 (hs₂ _ _ c3 (hs₁.extBut _ _ c1 (hs₀.extBut _ _ c1 x)))) ⟨oe, hs₃.extBut _ _ hez hoe, hce⟩
    | some x =>
      have hy : ys[k2]? = none := by rcases hend with h | h; rw [hx] at h; cases h; exact h
      refine wpAny_bind (wpAny_nextOf_list_item (h1₀.extBut hs₁.extBut D.i1z) (hl1₀.extBut hs₁.extBut D.l1z) hx fun h₂ h1₂ hs₂ => wpAny_pure ?_)
      have hTO₂ : IsPair h₂ TO a b := hs₂.extBut _ _ D.TOi1 (hs₁.extBut _ _ D.TOz hTO₀)
      refine wpAny_bind (wpAny_seqItems hTO₂ rfl ?_)
      refine wpAny_bind (wpAny_updateSeq_pair hTO₂ fun h₃ hTO₃ hs₃ => ?_)
      refine wpAny_bind (wpAny_letGo (wpAny_pure ?_))
      refine wpAny_bind (wpAny_bind (wpAny_onRaise ?_))
      show wpAny _ _ (Builtin.SmallTypes.nextOf (.ref i2) >>= _) _ _ _
      refine wpAny_bind (wpAny_nextOf_list_end hh (((h2₀.extBut hs₁.extBut D.i2z).extBut hs₂.extBut D.i12.symm).extBut hs₃.extBut D.TOi2.symm)
        (((hl2₀.extBut hs₁.extBut D.l2z).extBut hs₂.extBut D.l2i1).extBut hs₃.extBut D.l2TO) hy fun h₄ e hs₄ he => ?_)
      obtain ⟨oe, hoe, hce⟩ := he
      have hz₄ : ZipG h₄ z TI TO .ellipsis b' := hs₄ _ _ D.i2z.symm (hs₃.extBut _ _ D.TOz.symm (hs₂.extBut _ _ D.i1z.symm hz₁))
      have hez : e ≠ z := fun x => by subst x; rw [hz₄] at hoe; cases hoe; simp at hce
      refine wpAny_setField_rec hz₄ (by simp) fun h₅ _ hs₅ => hE h₅ e (fun c o c1 c2 c3 c4 x => hs₅.extBut _ _ c1 (hs₄ _ _ c4 (hs₃.extBut _ _ c2 (hs₂.extBut _ _ c3 (hs₁.extBut _ _ c1 (hs₀.extBut _ _ c1 x)))))) ⟨oe, hs₅.extBut _ _ hez hoe, hce⟩
  | false =>
    simp only [Bool.false_eq_true, if_false]
    refine wpAny_bind ?_
    simp only [List.forIn_cons, List.forIn_nil, ← Array.forIn_toList]
    refine wpAny_bind (wpAny_bind (wpAny_holding ?_))
    show wpAny _ _ (Builtin.SmallTypes.nextOf (.ref i1) >>= _) _ _ _
    cases hx : xs[k1]? with
    | none =>
      refine wpAny_bind (wpAny_nextOf_list_end hh h1₀ hl1₀ hx fun h₂ e hs₂ he => ?_)
      exact hE h₂ e (fun c o c1 _ c3 _ x => hs₂ _ _ c3 (hs₀.extBut _ _ c1 x)) he
    | some x =>
      have hy : ys[k2]? = none := by rcases hend with h | h; rw [hx] at h; cases h; exact h
      refine wpAny_bind (wpAny_nextOf_list_item h1₀ hl1₀ hx fun h₂ h1₂ hs₂ => wpAny_pure (wpAny_pure ?_))
      refine wpAny_bind (wpAny_bind (wpAny_holding ?_))
      show wpAny _ _ (Builtin.SmallTypes.nextOf (.ref i2) >>= _) _ _ _
      refine wpAny_bind (wpAny_nextOf_list_end hh (h2₀.extBut hs₂.extBut D.i12.symm) (hl2₀.extBut hs₂.extBut D.l2i1) hy fun h₄ e hs₄ he => ?_)
      exact hE h₄ e (fun c o c1 _ c3 c4 x => hs₄ _ _ c4 (hs₂.extBut _ _ c3 (hs₀.extBut _ _ c1 x))) he
theorem pyNext_held {z TI TO i1 i2 l1 l2 : Addr} {k1 k2 : Nat} {xs ys : Array Value} {x y a b f0 : Value} {bb : Bool} {Q : Option Value → Shared → Prop} (D : ZipApart z TI TO i1 i2 l1 l2)
    (hz : ZipG s.heap z TI TO f0 bb) (hg : Gave f0) (hTI : IsPair s.heap TI (.ref i1) (.ref i2)) (hTO : IsPair s.heap TO a b)
    (h1 : s.heap.IsListIter i1 l1 k1) (h2 : s.heap.IsListIter i2 l2 k2) (hl1 : s.heap.IsList l1 xs) (hl2 : s.heap.IsList l2 ys) (hx : xs[k1]? = some x) (hy : ys[k2]? = some y)
    (hQ : ∀ h' f1 b1 u v, ZipG h' z TI TO f1 b1 → Gave f1 → IsPair h' TO u v → h'.IsListIter i1 l1 (k1 + 1) → h'.IsListIter i2 l2 (k2 + 1) → IsPair h' s.heap.objs.size x y → h'.objs.size = s.heap.objs.size + 1 →
      (∀ c o, c ≠ z → c ≠ TO → c ≠ i1 → c ≠ i2 → s.heap.get? c = some o → h'.get? c = some o) → Q (some (.ref s.heap.objs.size)) { s with heap := h' }) :
    wpAny (model prog w) A (pyNext (.ref z)) Q E s := by
  have hT : s.TypeIs (.ref z) "zip" := ⟨_, hz, rfl⟩
  unfold pyNext
  exact wpAny_bind (wpAny_attempt (wpAny_callSpecial?_slot (name := Str.ofString "__next__") hT F.slot_zip_next
    (wpAny_call_entry F.slot_zip_next hT F.entry_zip_next
      (zip_next_held D hz hg hTI hTO h1 h2 hl1 hl2 hx hy fun h' f1 b1 u v a1 a2 a3 a4 a5 a6 a7 a8 => wpAny_pure (hQ h' f1 b1 u v a1 a2 a3 a4 a5 a6 a7 a8)) (F.args_zip_next_1 _))))
theorem pyNext_endH {z TI TO i1 i2 l1 l2 : Addr} {k1 k2 : Nat} {xs ys : Array Value} {a b f0 : Value} {bb : Bool} {Q : Option Value → Shared → Prop} (hh : A.handled = none) (D : ZipApart z TI TO i1 i2 l1 l2)
    (hz : ZipG s.heap z TI TO f0 bb) (hg : Gave f0) (hTI : IsPair s.heap TI (.ref i1) (.ref i2)) (hTO : IsPair s.heap TO a b)
    (h1 : s.heap.IsListIter i1 l1 k1) (h2 : s.heap.IsListIter i2 l2 k2) (hl1 : s.heap.IsList l1 xs) (hl2 : s.heap.IsList l2 ys) (hend : xs[k1]? = none ∨ ys[k2]? = none)
    (hQ : ∀ h', (∀ c o, c ≠ z → c ≠ TO → c ≠ i1 → c ≠ i2 → s.heap.get? c = some o → h'.get? c = some o) → Q none { s with heap := h' }) : wpAny (model prog w) A (pyNext (.ref z)) Q E s := by
  have hT : s.TypeIs (.ref z) "zip" := ⟨_, hz, rfl⟩
  unfold pyNext
  refine wpAny_bind (wpAny_attempt (wpAny_callSpecial?_slot (name := Str.ofString "__next__") hT F.slot_zip_next
    (wpAny_call_entry F.slot_zip_next hT F.entry_zip_next (zip_next_endH hh D hz hg hTI hTO h1 h2 hl1 hl2 hend fun h' e hk he => ?_) (F.args_zip_next_1 _))))
  obtain ⟨o, ho, hc⟩ := he
  refine wpAny_bind (wpAny_isInstance (T := "StopIteration") (b := true) ⟨o, ho, hc⟩ isSubtype_stop ?_)
  exact wpAny_pure (hQ _ hk)
theorem pyIter_zipG {z TI TO : Addr} {f0 : Value} {bb : Bool} {Q : Value → Shared → Prop} (hz : ZipG s.heap z TI TO f0 bb) (h : Q (.ref z) s) : wpAny (model prog w) A (pyIter (.ref z)) Q E s := by
  have hT : s.TypeIs (.ref z) "zip" := ⟨_, hz, rfl⟩
  refine wpAny_pyIter_slot hT F.slot_zip_iter (wpAny_call_entry F.slot_zip_iter hT F.entry_zip_iter ?_ (F.args_zip_iter_1 _))
  show wpAny _ _ (ret (.ref z)) _ _ s
  exact wpAny_pure ⟨_, rfl, "zip", _, hT, F.slot_zip_next.lookup, h⟩
end
theorem turn_zipN {P : Program} {w : World} {K : PySem.W.Frag} {x : Str} {tpos : Pos} {a b z TI TO i1 i2 : Addr} (D : ZipApart z TI TO i1 i2 a b) :
    Turn P w K (.Name x tpos) (Itz K a b) [z, TI, TO, i1, i2] z (fun i h => (∃ f0 bb, ZipG h z TI TO f0 bb ∧ Gave f0) ∧ IsPair h TI (.ref i1) (.ref i2) ∧ (∃ x y, IsPair h TO x y) ∧ h.IsListIter i1 a i ∧ h.IsListIter i2 b i) where
  mem := by simp
  obj := fun i h st c hc => by
    obtain ⟨⟨f0, bb, hz, _⟩, hTI, ⟨x, y, hTO⟩, ⟨o1, e1, _, d1⟩, ⟨o2, e2, _, d2⟩⟩ := st
    have e' : c = z ∨ c = TI ∨ c = TO ∨ c = i1 ∨ c = i2 := by simpa using hc
    rcases e' with q | q | q | q | q
    · rw [q]; exact ⟨_, hz, fun v q => nomatch q⟩
    · rw [q]; exact ⟨_, hTI, fun v q => nomatch q⟩
    · rw [q]; exact ⟨_, hTO, fun v q => nomatch q⟩
    · rw [q]; exact ⟨o1, e1, fun v q => by rw [d1] at q; cases q⟩
    · rw [q]; exact ⟨o2, e2, fun v q => by rw [d2] at q; cases q⟩
  keep := fun i h h' st k => by
    obtain ⟨⟨f0, bb, hz, hg⟩, hTI, ⟨x, y, hTO⟩, h1, h2⟩ := st
    exact ⟨⟨f0, bb, k z (by simp) _ hz, hg⟩, k TI (by simp) _ hTI, ⟨x, y, k TO (by simp) _ hTO⟩, h1.at fun o q => k i1 (by simp) o q, h2.at fun o q => k i2 (by simp) o q⟩
  item := by
    intro X hP hw hK hc i pins s σ H E I hf st hg
    subst hP hw hK
    obtain ⟨⟨f0, bb, hz, hgv⟩, hTI, ⟨x0, y0, hTO⟩, h1, h2⟩ := st
    obtain ⟨xs, ys, x, y, hqx, hqy, hx, hy⟩ := hg
    obtain ⟨its, rv, p, _⟩ := I.list hqx
    obtain ⟨its2, rv2, p2, _⟩ := I.list hqy
    obtain ⟨u, hu, ru⟩ := rv.get hx
    obtain ⟨u2, hu2, ru2⟩ := rv2.get hy
    have hzl : z < s.heap.objs.size := Heap.lt_size hz
    refine pyNext_held D hz hgv hTI hTO h1 h2 p.isList p2.isList (x := u) (y := u2) (by simpa using hu) (by simpa using hu2) fun h' f1 b1 u' v' z' hgv' TO' h1' h2' hT hsz hk => ?_
    refine ⟨_, rfl, ?_⟩
    show wpAny _ _ (pure ()) _ _ _
    refine wpAny_pure ?_
    have new : ObjOk X.prog X.w (upd H s.heap.objs.size (.tup [x, y])) h' s.heap.objs.size (.tup [x, y]) :=
      ⟨by show 2 ≤ sizeLine; decide, [u, u2], .cons ru (.cons ru2 .nil), ⟨_, hT, rfl, _, rfl⟩⟩
    have I1 : Inv X pins σ (upd H s.heap.objs.size (.tup [x, y])) { s with heap := h' } :=
      I.turnedNew (t' := s.toks) (ch := [z, TI, TO, i1, i2]) (fun c o hb q => hk c o (fun q' => hb (by simp [q'])) (fun q' => hb (by simp [q'])) (fun q' => hb (by simp [q'])) (fun q' => hb (by simp [q'])) q) hf (Nat.le_refl _) new
    refine ⟨.ref s.heap.objs.size, _, I1, rfl, ⟨_, x, y, rfl, I.hok.fresh (Nat.le_refl _), rfl, fun l hl => by rw [I.list_inj hl hqx]; exact hx, fun l hl => by rw [I.list_inj hl hqy]; exact hy⟩, ⟨⟨_, _, z', hgv'⟩, hk _ _ D.TIz D.TITO D.TIi1 D.TIi2 hTI, ⟨_, _, TO'⟩, h1', h2'⟩, fun c hcm => ?_⟩
    have hlt : c < s.heap.objs.size := by
      have e' : c = z ∨ c = TI ∨ c = TO ∨ c = i1 ∨ c = i2 := by simpa using hcm
      rcases e' with q | q | q | q | q
      · rw [q]; exact hzl
      · rw [q]; exact Heap.lt_size hTI
      · rw [q]; exact Heap.lt_size hTO
      · rw [q]; obtain ⟨_, e1, _⟩ := h1; exact Heap.lt_size e1
      · rw [q]; obtain ⟨_, e2, _⟩ := h2; exact Heap.lt_size e2
    rw [upd_ne (Nat.ne_of_lt hlt)]
    exact (hf c hcm).1
  done := by
    intro X hP hw hK hc i pins s σ H E I hf st hg
    subst hP hw hK
    obtain ⟨⟨f0, bb, hz, hgv⟩, hTI, ⟨x0, y0, hTO⟩, h1, h2⟩ := st
    obtain ⟨xs, ys, hqx, hqy, hend⟩ := hg
    obtain ⟨its, rv, p, _⟩ := I.list hqx
    obtain ⟨its2, rv2, p2, _⟩ := I.list hqy
    have l1 := rv.length
    have l2 := rv2.length
    have he : its.toArray[i]? = none ∨ its2.toArray[i]? = none := by
      rcases hend with q | q
      · exact .inl (by simp; omega)
      · exact .inr (by simp; omega)
    exact pyNext_endH (I.ok.hd hc) D hz hgv hTI hTO h1 h2 p.isList p2.isList he fun h' hk => ⟨rfl, I.turnedL (t' := s.toks) (ch := [z, TI, TO, i1, i2]) (fun c o hb q =>
      hk c o (fun q' => hb (by simp [q'])) (fun q' => hb (by simp [q'])) (fun q' => hb (by simp [q'])) (fun q' => hb (by simp [q'])) q) hf⟩
  self := fun A i s Q E st h => let ⟨_, _, hz, _⟩ := st.1; pyIter_zipG hz h
/-- for x in zip(e, e2) -/
theorem pi_zipN {X : Cx} {e e2 : Expr} {ta : TA} {x : Str} {p pos tpos : Pos} (hg : Gl X "zip") (hm : X.mg "zip" = none) (ha : PA X [e, e2] ta)
    (hs : starEach [e, e2] X.env = (false, eval e X.env) :: starEach [e2] X.env := by rfl) (hpl : (backTo pos (starEach [e2] X.env)).any (·.1) = false := by rfl) :
    PI X (.Name x tpos) (.Call (.Name "zip" p) [e, e2] [] pos) (iZip X.K ta) := by
  refine ⟨fun pins s σ H R I h => ?_⟩
  refine Call_ (ld_blt I hg hm PyProof.Rows.boot_zip (PyProof.Rows.callWith_type1 (thn (ha.run pos pins s σ H _ I h) fun us s1 ⟨vs, H1, I1, r1, q1⟩ => ?_) hs hpl))
  obtain ⟨a, b, xs, ys, ex, hqx, hqy, q⟩ := q1
  subst ex
  cases r1 with
  | cons r rr =>
    cases rr with
    | cons r' rr =>
      cases rr
      cases r
      cases r'
      obtain ⟨its, rv, p1, _⟩ := I1.list hqx
      obtain ⟨its2, rv2, p2, _⟩ := I1.list hqy
      have la : a < s1.heap.objs.size := p1.lt
      have lb : b < s1.heap.objs.size := p2.lt
      refine call_zip_2 p1.isList p2.isList fun h' hz hTI hTO h1 h2 hsz hk => wpAny_pyIter_zip hz ?_
      have I2 : Inv X pins σ H1 { s1 with heap := h' } := I1.kept (t' := s1.toks) hk
      refine ⟨s1.heap.objs.size + 4, [s1.heap.objs.size + 4, s1.heap.objs.size + 2, s1.heap.objs.size + 3, s1.heap.objs.size, s1.heap.objs.size + 1], _, _, H1, rfl, I2, turn_zipN (PySem.W.ktu_apart s1.heap.objs.size a b la lb), ⟨⟨_, _, hz, .inl rfl⟩, hTI, ⟨_, _, hTO⟩, h1, h2⟩, fun c hcm => ?_, q⟩
      have e' : c = s1.heap.objs.size + 4 ∨ c = s1.heap.objs.size + 2 ∨ c = s1.heap.objs.size + 3 ∨ c = s1.heap.objs.size ∨ c = s1.heap.objs.size + 1 := by simpa using hcm
      have hle : s1.heap.objs.size ≤ c := by
        rcases e' with z | z | z | z | z
        · rw [z]; exact Nat.le_add_right _ _
        · rw [z]; exact Nat.le_add_right _ _
        · rw [z]; exact Nat.le_add_right _ _
        · rw [z]; exact Nat.le_refl _
        · rw [z]; exact Nat.le_add_right _ _
      exact I1.fpOk hle (I1.hok.fresh hle)
end Ow
namespace Ty
open PySem PySem.Spec PyProof.Rows L2
open Evl (Ex)
section
variable {ι : Type} {X : ι → Cx} {Ga Gb : List Sl} {a c : Expr} {x : Str} {pos p px tpos : Pos} {K : PySem.W.Frag} {α β : Type} {f : α → Pd} {g : β → Pd} {as : List α} {bs : List β} {elts : List Expr} {kk : Nat}
theorem walk_zip {a b : Addr} {xs ys : List V} {G0 : Hp} (h : G0 a = some (.lst xs)) (h' : G0 b = some (.lst ys)) (hp : AllP (as.map f) xs G0) (hq : AllP (bs.map g) ys G0) : WalkT (Itz K a b) ((as.zip bs).map fun z => Tp [f z.1, g z.2]) G0 := by
  have lx : xs.length = as.length := by rw [hp.length, List.length_map]
  have ly : ys.length = bs.length := by rw [hq.length, List.length_map]
  refine ⟨fun i G H e1 e2 hl => ?_, fun G H e1 e2 => ⟨xs, ys, SqL.of (e2 _ _ (e1 _ _ h)), SqL.of (e2 _ _ (e1 _ _ h')), ?_⟩, fun i P G H v H' e1 e2 hP y => ?_⟩
  · rw [List.length_map, List.length_zip] at hl
    have l1 : i < xs.length := by omega
    have l2 : i < ys.length := by omega
    exact ⟨xs, ys, xs[i], ys[i], SqL.of (e2 _ _ (e1 _ _ h)), SqL.of (e2 _ _ (e1 _ _ h')), by simp [l1], by simp [l2]⟩
  · rw [List.length_map, List.length_zip]; omega
  · obtain ⟨T, u, w, rfl, hT, rfl, h1, h2⟩ := y
    have h1 := h1 xs (SqL.of (e2 _ _ (e1 _ _ h)))
    have h2 := h2 ys (SqL.of (e2 _ _ (e1 _ _ h')))
    rw [List.getElem?_map] at hP
    cases hz : (as.zip bs)[i]? with
    | none => rw [hz] at hP; cases hP
    | some z =>
      rw [hz] at hP
      cases hP
      have hz := List.getElem?_zip_eq_some.mp hz
      obtain ⟨u', hu', pu⟩ := hp.get (i := i) (P := f z.1) (by rw [List.getElem?_map, hz.1]; rfl)
      obtain ⟨w', hw', pw⟩ := hq.get (i := i) (P := g z.2) (by rw [List.getElem?_map, hz.2]; rfl)
      rw [h1] at hu'
      rw [h2] at hw'
      cases hu'
      cases hw'
      have t : Step none G H (upd G T (.tup [u, w])) (upd H T (.tup [u, w])) := Step.new e2 hT
      exact ⟨_, t, T, [u, w], rfl, upd_same, (f z.1).mono (Ty.Ex.trans e1 t.k) pu, (g z.2).mono (Ty.Ex.trans e1 t.k) pw, trivial⟩
/-- for x, y in zip(a, c) -/
theorem i_zip (hK : ∀ i, (X i).K = K) (hm : ∀ i, (X i).mg "zip" = none) (h : TyA X Ga [a, c] [Ls (as.map f), Ls (bs.map g)] Gb) (hg : ∀ i, Gl (X i) "zip" := by intro i; rfl) (hs : ∀ i, starEach [a, c] (X i).env = (false, eval a (X i).env) :: starEach [c] (X i).env := by intro i; rfl) (hpl : ∀ i, (backTo pos (starEach [c] (X i).env)).any (·.1) = false := by intro i; rfl) :
    TyI X Ga (.Tuple elts kk tpos) (.Call (.Name "zip" p) [a, c] [] pos) ((as.zip bs).map fun z => Tp [f z.1, g z.2]) Gb := fun q F σ G H I R k => by
  refine ⟨iZip K (uA X [a, c]), fun i => by rw [← hK i]; exact pi_zip (hg i) (hm i) (uA_pa i) (hs i) (hpl i), h q F σ G H I _ fun vs G1 H1 t1 I1 p1 => ?_⟩
  match vs, p1 with
  | [u, w], ⟨p1, p2, _⟩ =>
    obtain ⟨A, xs, rfl, hA, pA⟩ := p1
    obtain ⟨B, ys, rfl, hB, pB⟩ := p2
    exact ⟨A, B, xs, ys, rfl, SqL.of (I1.sub _ _ hA), SqL.of (I1.sub _ _ hB), k _ G1 H1 t1 I1 (walk_zip hA hB pA pB)⟩
/-- for x in zip(a, c) -/
theorem i_zipN (hK : ∀ i, (X i).K = K) (hm : ∀ i, (X i).mg "zip" = none) (h : TyA X Ga [a, c] [Ls (as.map f), Ls (bs.map g)] Gb) (hg : ∀ i, Gl (X i) "zip" := by intro i; rfl) (hs : ∀ i, starEach [a, c] (X i).env = (false, eval a (X i).env) :: starEach [c] (X i).env := by intro i; rfl) (hpl : ∀ i, (backTo pos (starEach [c] (X i).env)).any (·.1) = false := by intro i; rfl) :
    TyI X Ga (.Name x px) (.Call (.Name "zip" p) [a, c] [] pos) ((as.zip bs).map fun z => Tp [f z.1, g z.2]) Gb := fun q F σ G H I R k => by
  refine ⟨iZip K (uA X [a, c]), fun i => by rw [← hK i]; exact Ow.pi_zipN (hg i) (hm i) (uA_pa i) (hs i) (hpl i), h q F σ G H I _ fun vs G1 H1 t1 I1 p1 => ?_⟩
  match vs, p1 with
  | [u, w], ⟨p1, p2, _⟩ =>
    obtain ⟨A, xs, rfl, hA, pA⟩ := p1
    obtain ⟨B, ys, rfl, hB, pB⟩ := p2
    exact ⟨A, B, xs, ys, rfl, SqL.of (I1.sub _ _ hA), SqL.of (I1.sub _ _ hB), k _ G1 H1 t1 I1 (walk_zip hA hB pA pB)⟩
end
end Ty
end
section
/-! What is known of drawn things: some content, tests that are not known, objects that become the changing one. -/
namespace Ty
open PySem PySem.Spec PyProof.Rows L2
open Evl (Ex)
def SomeM {α : Type} (C : α → Prop) (M : α → Mo) : Mo := ⟨fun o G => ∃ x, C x ∧ (M x).m o G, fun e ⟨x, c, h⟩ => ⟨x, c, (M x).mono e h⟩⟩
section
variable {q : Option Addr} {F : Addr → Prop} {Ga : List Sl} {σ : L2.St} {G H : Hp} {ad : Nat → Addr}
theorem SIa.re (h : SIa q F ad Ga σ G H) {k : Nat} {s t : Sl} (e : Ga[k]? = some s) (hm : t.mut → s.mut) (ht : SlOk q F (ad k) t σ[k]? G H) : SIa q F ad (Ga.set k t) σ G H := by
  have hl : k < Ga.length := (List.getElem?_eq_some_iff.mp e).1
  refine ⟨h.sub, by rw [List.length_set]; exact h.len, fun i s' e' => ?_, fun i j s1 s2 hn e1 e2 m1 m2 => ?_, h.qt⟩
  · by_cases c : k = i
    · subst c
      rw [List.getElem?_set_self hl] at e'
      cases e'
      exact ht
    · rw [List.getElem?_set_ne c] at e'
      exact h.ok i s' e'
  · have key : ∀ (y : Nat) (u : Sl), (Ga.set k t)[y]? = some u → u.mut → ∃ u', Ga[y]? = some u' ∧ u'.mut := fun y u e m => by
      by_cases c : k = y
      · subst c
        rw [List.getElem?_set_self hl] at e
        cases e
        exact ⟨s, by assumption, hm m⟩
      · rw [List.getElem?_set_ne c] at e; exact ⟨u, e, m⟩
    obtain ⟨a1, b1, c1⟩ := key i s1 e1 m1
    obtain ⟨a2, b2, c2⟩ := key j s2 e2 m2
    exact h.ne i j a1 a2 hn b1 b2 c1 c2
end
section
variable {ι : Type} {X : ι → Cx} {Ga Gb Gc Gd : List Sl} {e a c d ie tg iter elt : Expr} {es : List Expr} {P P' P1 P2 P3 : Pd} {Ps Qs its : List Pd} {n : Option (List Sl)} {R : Pd} {O : Option Mo} {rest sts th el body : List Stmt} {st : Stmt} {pos p : Pos} {b b1 b2 : Bool} {M M' : Mo} {K : PySem.W.Frag} {x : Str}
theorem b_openO {α : Type} {C : α → Prop} {Mx : α → Mo} {k : Nat} (hk : Ga[k]? = some (.own (SomeM C Mx))) (h : ∀ x, C x → TyB X (Ga.set k (.own (Mx x))) sts n R O) : TyB X Ga sts n R O := fun bs σ G H D f kn kr => by
  obtain ⟨⟨ad, I⟩, st⟩ := f
  obtain ⟨e1, e2, e3, o, e4, y, cy, m⟩ := I.ok k _ hk
  exact h y cy bs σ G H D ⟨⟨ad, I.re hk (fun _ => trivial) ⟨e1, e2, e3, o, e4, m⟩⟩, st⟩ kn kr
theorem b_openMu {α : Type} {C : α → Prop} {Mx : α → Mo} {k : Nat} (hk : Ga[k]? = some (.mu (SomeM C Mx))) (h : ∀ x, C x → TyB X (Ga.set k (.mu (Mx x))) sts n R O) : TyB X Ga sts n R O := fun bs σ G H D f kn kr => by
  obtain ⟨⟨ad, I⟩, st⟩ := f
  obtain ⟨e1, e2, e3, e3', o, e4, y, cy, m⟩ := I.ok k _ hk
  exact h y cy bs σ G H D ⟨⟨ad, I.re hk (fun _ => trivial) ⟨e1, e2, e3, e3', o, e4, m⟩⟩, st⟩ kn kr
/-! ### operators on what is not known -/
theorem o_ex1 {α : Type} {C : α → Prop} {Px : α → Pd} {r : R2} (h : ∀ x, C x → OpT r (Px x) P2 P) : OpT r (Some' C Px) P2 P := fun x y G H Q e p1 p2 k => by
  obtain ⟨z, hz, p1⟩ := p1
  exact h z hz x y G H Q e p1 p2 k
theorem o_ex2 {α : Type} {C : α → Prop} {Px : α → Pd} {r : R2} (h : ∀ x, C x → OpT r P1 (Px x) P) : OpT r P1 (Some' C Px) P := fun x y G H Q e p1 p2 k => by
  obtain ⟨z, hz, p2⟩ := p2
  exact h z hz x y G H Q e p1 p2 k
theorem c_ex1 {α : Type} {C : α → Prop} {Px : α → Pd} {r : List V → Hp → VK → Prop} (h : ∀ x, C x → CaT r (Px x :: Ps) P) : CaT r (Some' C Px :: Ps) P := fun xs G H Q e p k => by
  match xs, p with
  | v :: vs, ⟨⟨z, hz, p1⟩, p2⟩ => exact h z hz (v :: vs) G H Q e ⟨p1, p2⟩ k
theorem OpT.to {r : R2} (h : OpT r P1 P2 P) (hp : ∀ v G, P.p v G → P'.p v G) : OpT r P1 P2 P' := fun x y G H Q e p1 p2 k => h x y G H Q e p1 p2 fun z G' H' t p => k z G' H' t (hp z G' p)
theorem CaT.to {r : List V → Hp → VK → Prop} (h : CaT r Ps P) (hp : ∀ v G, P.p v G → P'.p v G) : CaT r Ps P' := fun xs G H Q e p k => h xs G H Q e p fun z G' H' t p => k z G' H' t (hp z G' p)
theorem some_le {α β : Type} {C : α → Prop} {C' : β → Prop} {Px : α → Pd} {Py : β → Pd} (h : ∀ x, C x → ∃ y, C' y ∧ Py y = Px x) : ∀ v G, (Some' C Px).p v G → (Some' C' Py).p v G := fun v G ⟨x, c, p⟩ => by
  obtain ⟨y, c', e⟩ := h x c
  exact ⟨y, c', by rw [e]; exact p⟩
theorem some_in {α : Type} {C : α → Prop} {Px : α → Pd} {x : α} (h : C x) : ∀ v G, (Px x).p v G → (Some' C Px).p v G := fun _ _ p => ⟨x, h, p⟩
/-! ### tests that are not known -/
def TyQ (X : ι → Cx) (Ga : List Sl) (e : Expr) (Gb : List Sl) : Prop :=
  ∀ (q : Option Addr) (F : Addr → Prop) (σ : L2.St) (G H : Hp), SI q F Ga σ G H → ∀ Q : Bool → Hp → Prop,
    (∀ b G' H', Step q G H G' H' → SI q F Gb σ G' H' → Q b H') → uT X e σ H Q
theorem b_ifq (h : TyQ X Ga c Gb) (h1 : TyB X Gb th (some Gc) R O) (h2 : TyB X Gb el (some Gc) R O) (hr : TyB X Gc rest n R O) : TyB X Ga (.If c th el pos :: rest) n R O := b_cons (fun bs σ G H D f kn kr =>
  ⟨tIfS (uT X c) (uB X th) (uB X el), fun i => ps_if (uT_pt i) (uB_ps i) (uB_ps i), h bs.q (Fr bs) σ G H f.si _ fun b G1 H1 t1 I1 => by
    cases b with
    | true => exact h1 bs σ G1 H1 D (f.next t1 I1) (fun σ2 G2 H2 e2 f2 => kn σ2 G2 H2 (Ex.trans t1.k e2) f2) kr
    | false => exact h2 bs σ G1 H1 D (f.next t1 I1) (fun σ2 G2 H2 e2 f2 => kn σ2 G2 H2 (Ex.trans t1.k e2) f2) kr⟩) hr
theorem q_cmp {op : CmpOp} {r : R2} (rule : ∀ i, OpR (X i) (compareOp op) r) (ha : TyE X Ga a P1 Gb) (hc : TyE X Gb c P2 Gc) (ho : OpT r P1 P2 (Some' (fun _ : Bool => True) IsB)) (hm : behindInMarks op c = false := by first | exact nomark _ | rfl) : TyQ X Ga (.Compare a [op] [c] pos) Gc := fun q F σ G H I Q k => by
  refine ⟨tTest (tOp r (uE X a) (uE X c)), fun i => pt_cmpR (rule i) (uE_pe i) (uE_pe i) hm, ha q F σ G H I _ fun x G1 H1 t1 I1 p1 => hc q F σ G1 H1 I1 _ fun y G2 H2 t2 I2 p2 => ?_⟩
  exact ho x y G2 H2 _ I2.sub (P1.mono t2.k p1) p2 fun z G3 H3 t3 ⟨b, _, p3⟩ => ⟨b, p3, k b G3 H3 ((t1.trans t2).trans t3.any) (I2.pure t3)⟩
/-- e == j, e some number -/
theorem q_eq {α : Type} {C : α → Prop} {f : α → Int} {j : Int} (ha : TyE X Ga a (Some' C fun x => IsI (f x)) Gb) (hc : TyE X Gb c (IsI j) Gc) (hm : behindInMarks .Eq c = false := by first | exact nomark _ | rfl) : TyQ X Ga (.Compare a [.Eq] [c] pos) Gc :=
  q_cmp (fun _ => op_eq) ha hc (o_ex1 fun x _ => (o_eq rfl).to fun v G p => ⟨_, trivial, p⟩) hm
/-- known a and e -/
theorem q_and (h : TyT X Ga a true Gb) (h2 : TyQ X Gb e Gc) : TyQ X Ga (.BoolOp .And [a, e] pos) Gc := fun q F σ G H I Q k => by
  refine ⟨tAnd (uT X a) (uT X e), fun i => PW.pt (pw_and (uT_pt i) (pw_and1 (uT_pt i))), h q F σ G H I _ fun G1 H1 t1 I1 => ?_⟩
  exact h2 q F σ G1 H1 I1 Q fun b G2 H2 t2 I2 => k b G2 H2 (t1.trans t2) I2
/-! ### lists of what is not known -/
def PW {δ α : Type} (C : δ → α → Prop) : List δ → List α → Prop
  | [], [] => True
  | d :: ds, x :: xs => C d x ∧ PW C ds xs
  | _, _ => False
theorem PW.len {δ α : Type} {C : δ → α → Prop} : ∀ {ds : List δ} {xs : List α}, PW C ds xs → xs.length = ds.length
  | [], [], _ => rfl
  | _ :: ds, _ :: xs, h => by rw [List.length_cons, List.length_cons, PW.len h.2]
  | [], _ :: _, h => h.elim
  | _ :: _, [], h => h.elim
theorem PW.mem {δ α : Type} {C : δ → α → Prop} : ∀ {ds : List δ} {xs : List α}, PW C ds xs → ∀ x ∈ xs, ∃ d ∈ ds, C d x
  | [], [], _, x, hx => by cases hx
  | d :: ds, y :: xs, h, x, hx => by
    rcases List.mem_cons.mp hx with rfl | hx
    · exact ⟨d, List.mem_cons_self, h.1⟩
    · obtain ⟨d', hd, c⟩ := PW.mem h.2 x hx
      exact ⟨d', List.mem_cons_of_mem _ hd, c⟩
  | [], _ :: _, h, _, _ => h.elim
  | _ :: _, [], h, _, _ => h.elim
theorem PW.get {δ α : Type} {C : δ → α → Prop} : ∀ {ds : List δ} {xs : List α}, PW C ds xs → ∀ (i : Nat) (d0 : δ) (x0 : α), i < ds.length → C (ds.getD i d0) (xs.getD i x0)
  | d :: ds, y :: xs, h, 0, _, _, _ => h.1
  | d :: ds, y :: xs, h, i + 1, d0, x0, hi => by
    have := PW.get h.2 i d0 x0 (by simpa using hi)
    simpa using this
  | [], _, _, _, _, _, hi => absurd hi (Nat.not_lt_zero _)
  | _ :: _, [], h, _, _, _, _ => h.elim
theorem AllP.pick {δ α : Type} {C : δ → α → Prop} {Px : α → Pd} {G : Hp} : ∀ {ds : List δ} {vs : List V}, AllP (ds.map fun d => Some' (C d) Px) vs G → ∃ xs, PW C ds xs ∧ AllP (xs.map Px) vs G
  | [], [], _ => ⟨[], trivial, trivial⟩
  | d :: ds, v :: vs, ⟨⟨x, hx, p⟩, h⟩ => by
    obtain ⟨xs, h1, h2⟩ := AllP.pick h
    exact ⟨x :: xs, ⟨hx, h1⟩, p, h2⟩
  | [], _ :: _, h => h.elim
  | _ :: _, [], h => h.elim
theorem Ls.pick {δ α : Type} {C : δ → α → Prop} {Px : α → Pd} {ds : List δ} : ∀ v G, (Ls (ds.map fun d => Some' (C d) Px)).p v G → (Some' (PW C ds) fun xs => Ls (xs.map Px)).p v G := fun v G ⟨a, vs, h1, h2, h3⟩ => by
  obtain ⟨xs, h4, h5⟩ := AllP.pick h3
  exact ⟨xs, h4, a, vs, h1, h2, h5⟩
end
end Ty
end
section
/-! Comprehensions that change the own object; stores at places that are not known; an object becomes the own one. -/
namespace Ty
open PySem PySem.Spec PyProof.Rows L2
open Evl (Ex)
section
variable {ι : Type} {X : ι → Cx} {Ga Gb : List Sl} {elt iter : Expr} {scope : Scope} {pos spos px py : Pos} {x y : Str} {n : Option (List Sl)} {R : Pd} {O : Option Mo} {rest : List Stmt} {α : Type} {M : Nat → Mo}
/-- [elt for x in iter]: the own object in slot o goes from M i to M (i + 1) -/
theorem n_lcO {ds : List α} {it f : α → Pd} (o k : Nat) (hok : k ≠ o) (hM : Gb[o]? = some (.own (M 0))) (nd : ∀ i, (X i).N.Nodup) (hi : TyI X Ga (.Name x px) iter (ds.map it) Gb)
    (he : ∀ i d, ds[i]? = some d → TyE (blkX X scope) ((Gb.set o (.own (M i))).set k (.is (it d))) elt (f d) ((Gb.set o (.own (M (i + 1)))).set k (.is (it d)))) (hz : ds.length ≤ sizeLine) (hO : ∀ i Mm, Gb[i]? = some (Sl.own Mm) → i = o)
    (hN : ∀ i, (X i).N[k]? = some x := by intro i; rfl) (hx : ∀ i, Loc (blkX X scope i).env.scope x := by intro i; first | exact Or.inl rfl | exact Or.inr rfl) (hf : ∀ i, (blkX X scope i).fn x = true ∨ (blkX X scope i).env.scope.names.lookup x = some .local := by intro i; first | exact .inl rfl | exact .inr rfl) :
    TyN (tLc (uI X (.Name x px) iter) (uG (blkX X scope) (.Name x px)) tYes (uE (blkX X scope) elt) [k]) Ga (Ml (ds.map f)) (Gb.set o (.own (M ds.length))) := by
  have hl : o < Gb.length := (List.getElem?_eq_some_iff.mp hM).1
  have e0 : Gb.set o (.own (M 0)) = Gb := by
    apply List.ext_getElem?
    intro i
    by_cases c : o = i
    · subst c; rw [List.getElem?_set_self hl, hM]
    · rw [List.getElem?_set_ne c]
  have wp : ∀ (A : List Sl) (s : Sl), wipeG (A.set k s) [k] = A.set k .any := fun A s => by
    show (A.set k s).set k .any = _
    rw [List.set_set]
  cases ds with
  | nil =>
    have := n_lc (X := X) (elt := elt) (scope := scope) (vs := [k]) (ks := [k]) (Gf := fun _ => Gb) (Bd := fun _ => Gb) (Bt := fun _ => Gb) (Be := fun _ => Gb) (f := fun _ => Is .non) (t := fun _ => true) (ac := fun _ => []) (tt := tYes) (its := []) hi (Nat.zero_le _) (OwnUpd.refl fun i Mm h => by rw [hO i Mm h]; simp [Ne.symm hok]) (fun _ h => h) (fun k P h => by simp at h) (fun k h => by simp at h) (fun k h => by simp at h) (fun k h => by simp at h) (fun k h => by simp at h) rfl (fun k h => by simp at h)
    show TyN _ Ga (Ml []) (Gb.set o (.own (M 0)))
    rw [e0]
    exact this
  | cons d0 r =>
    generalize hds : d0 :: r = ds at *
    have gd : ∀ k, k < ds.length → ds[k]? = some (ds.getD k d0) := fun k hk => by
      have e : ds[k]? = some ds[k] := List.getElem?_eq_getElem hk
      simp [List.getD, e]
    have lm : (ds.map it).length = ds.length := List.length_map _
    have := n_lc (X := X) (elt := elt) (scope := scope) (vs := [k]) (ks := [k]) (Gf := fun i => Gb.set o (.own (M i))) (Bd := fun i => (Gb.set o (.own (M i))).set k (.is (it (ds.getD i d0)))) (Bt := fun i => (Gb.set o (.own (M i))).set k (.is (it (ds.getD i d0)))) (Be := fun i => (Gb.set o (.own (M (i + 1)))).set k (.is (it (ds.getD i d0)))) (f := fun i => f (ds.getD i d0)) (t := fun _ => true) (ac := fun i => (ds.take i).map f) (tt := tYes) (its := ds.map it) (by rw [e0]; exact hi) (by rw [lm]; exact hz)
      ⟨by rw [List.length_set, List.length_set], fun i s e => by
        rw [e0]
        by_cases c : o = i
        · subst c
          rw [List.getElem?_set_self hl] at e
          cases e
          exact .inr ⟨M 0, _, hM, rfl, by simp [Ne.symm hok]⟩
        · rw [List.getElem?_set_ne c] at e
          exact .inl ⟨e, fun Mm z => c (hO i Mm (by rw [e, z])).symm⟩⟩ (fun _ h => h)
      (fun i P h => by
        have hi' : i < ds.length := by
          have := (List.getElem?_eq_some_iff.mp h).1
          rwa [lm] at this
        rw [List.getElem?_map, gd i hi'] at h
        cases h
        have := g_name (Ga := wipeG (Gb.set o (.own (M i))) [k]) (P := it (ds.getD i d0)) (i := k) (pos := px) fun i => pg_name (X := blkX X scope i) (nd i.1) (hN i.1) (hx i) (hf i)
        have e1 : (wipeG (Gb.set o (.own (M i))) [k]).set k (.is (it (ds.getD i d0))) = (Gb.set o (.own (M i))).set k (.is (it (ds.getD i d0))) := by
          show ((Gb.set o (.own (M i))).set k .any).set k _ = _
          rw [List.set_set]
        rw [e1] at this
        exact this)
      (fun i h => tt_yes) (fun i h _ => he i _ (gd i (by rwa [lm] at h))) (fun i h _ => by rw [wp]; exact GaLe.refl _) (fun i h hf => absurd hf (by decide)) rfl
      (fun i h => by rw [if_pos rfl, take_more (gd i (by rwa [lm] at h)), List.map_append]; rfl)
    rw [lm, List.take_length] at this
    exact this
theorem e_lcO {ds : List α} {it f : α → Pd} (o k : Nat) (hok : k ≠ o) (hM : Gb[o]? = some (.own (M 0))) (nd : ∀ i, (X i).N.Nodup) (calm : ∀ i, (X i).calm = true) (hi : TyI X Ga (.Name x px) iter (ds.map it) Gb)
    (he : ∀ i d, ds[i]? = some d → TyE (blkX X scope) ((Gb.set o (.own (M i))).set k (.is (it d))) elt (f d) ((Gb.set o (.own (M (i + 1)))).set k (.is (it d)))) (hz : ds.length ≤ sizeLine) (hO : ∀ i Mm, Gb[i]? = some (Sl.own Mm) → i = o)
    (ok : ∀ i, BlkOk (X i).N (X i).env.scope scope [(x, k)] := by intro i; exact blkOk_by rfl) (hs : ∀ i x, foldedSetIterable iter (X i).env x = pure x := by intro _ _; rfl)
    (hN : ∀ i, (X i).N[k]? = some x := by intro i; rfl) (hx : ∀ i, Loc (blkX X scope i).env.scope x := by intro i; first | exact Or.inl rfl | exact Or.inr rfl) (hf : ∀ i, (blkX X scope i).fn x = true ∨ (blkX X scope i).env.scope.names.lookup x = some .local := by intro i; first | exact .inl rfl | exact .inr rfl) :
    TyE X Ga (.ListComp elt [⟨.Name x px, iter, [], 0⟩] scope pos) (Ls (ds.map f)) (Gb.set o (.own (M ds.length))) :=
  e_r ((n_lcO o k hok hM nd hi he hz hO hN hx hf).known Ml.known) (fun i => mk_lc calm nd ok hs i)
theorem b_lcO {ds : List α} {it f : α → Pd} (o m k : Nat) (hok : k ≠ o) (hM : Gb[o]? = some (.own (M 0))) (nd : ∀ i, (X i).N.Nodup) (calm : ∀ i, (X i).calm = true) (hi : TyI X Ga (.Name x px) iter (ds.map it) Gb)
    (he : ∀ i d, ds[i]? = some d → TyE (blkX X scope) ((Gb.set o (.own (M i))).set k (.is (it d))) elt (f d) ((Gb.set o (.own (M (i + 1)))).set k (.is (it d)))) (hz : ds.length ≤ sizeLine) (hO : ∀ i Mm, Gb[i]? = some (Sl.own Mm) → i = o) (hr : TyB X ((Gb.set o (.own (M ds.length))).set m (.is (Ls (ds.map f)))) rest n R O)
    (ok : ∀ i, BlkOk (X i).N (X i).env.scope scope [(x, k)] := by intro i; exact blkOk_by rfl) (hs : ∀ i x, foldedSetIterable iter (X i).env x = pure x := by intro _ _; rfl)
    (hN : ∀ i, (X i).N[k]? = some x := by intro i; rfl) (hx : ∀ i, Loc (blkX X scope i).env.scope x := by intro i; first | exact Or.inl rfl | exact Or.inr rfl) (hf : ∀ i, (blkX X scope i).fn x = true ∨ (blkX X scope i).env.scope.names.lookup x = some .local := by intro i; first | exact .inl rfl | exact .inr rfl)
    (hy : ∀ i, (X i).N[m]? = some y := by intro i; rfl) (hyl : ∀ i, (X i).env.scope.names.lookup y = some .local := by intro i; rfl) (hsw : ∀ i, swapsWith (.ListComp elt [⟨.Name x px, iter, [], 0⟩] scope pos) (some (.Name y py)) spos.line (X i).env = pure true := by intro i; exact sw_true rfl rfl rfl rfl) :
    TyB X Ga (.Assign [.Name y py] (.ListComp elt [⟨.Name x px, iter, [], 0⟩] scope pos) spos :: rest) n R O :=
  b_setR (mk_sl calm nd hy hyl hsw ok hs) ((n_lcO o k hok hM nd hi he hz hO hN hx hf).known Ml.known) hr
end
/-! ### an object becomes the own one -/
theorem Step.absorb {q : Option Addr} {G0 H0 G H G' H' : Hp} {a : Addr} (s : Step q G0 H0 G H) (t : Step (some a) G H G' H') (h0 : H0 a = none) (nq : q ≠ some a) : Step q G0 H0 G' H' := by
  refine ⟨Ex.trans s.k t.k, t.s, fun x o n e => t.f x o (fun z => by cases z; rw [h0] at e; cases e) (s.f x o n e), fun x o e => ?_, fun x e hx => ?_⟩
  · rcases t.n x o e with ⟨u, e'⟩ | e'
    · exact s.n x u e'
    · right
      cases c : H0 x with
      | none => rfl
      | some u =>
        by_cases hq : q = some x
        · obtain ⟨o', e2⟩ := s.r x hq ⟨u, c⟩
          rw [e2] at e'; cases e'
        · rw [s.f x u hq c] at e'; cases e'
  · obtain ⟨o, ho⟩ := s.r x e hx
    exact ⟨o, t.f x o (fun z => nq (by rw [e]; exact z.symm)) ho⟩
section
variable {ι : Type} {X : ι → Cx} {Ga Gn : List Sl} {sts : List Stmt} {R : Pd} {M : Mo} {i : Nat}
theorem b_ownM (hi : Ga[i]? = some (.mu M)) (hp : ∀ (j : Nat) (s : Sl), Ga[j]? = some s → s.mut → j = i) (hn : ∀ (j : Nat) (s : Sl), Gn[j]? = some s → ¬ s.mut) (h : TyB X (Ga.set i (.own M)) sts (some Gn) R none) : TyB X Ga sts (some Gn) R none := fun b σ G H D f kn kr => by
  obtain ⟨a, o, ea, nq, hF, hg, ho, m⟩ := f.si.getM hi
  have f0 := f
  obtain ⟨⟨ad, I⟩, st⟩ := f
  have hl : i < Ga.length := (List.getElem?_eq_some_iff.mp hi).1
  have eai : ad i = a := by
    have := (I.ok i _ hi).1
    rw [ea] at this
    injection this with this
    injection this with this
    injection this with this
    exact this.symm
  have I' : SI (some a) (Fr ⟨some a, G, H⟩) (Ga.set i (.own M)) σ G H := by
    refine ⟨ad, I.sub, by rw [List.length_set]; exact I.len, fun j s e => ?_, fun j k s t hn e1 e2 m1 m2 => ?_, fun c ec => by cases ec; exact ⟨hg, o, ho⟩⟩
    · by_cases c : i = j
      · subst c
        rw [List.getElem?_set_self hl] at e
        cases e
        exact ⟨by rw [eai]; exact ea, by rw [eai], by rw [eai]; exact hg, o, by rw [eai]; exact ho, m⟩
      · rw [List.getElem?_set_ne c] at e
        have kk := I.ok j s e
        cases s with
        | any => trivial
        | is P => exact kk
        | mu M => exact absurd (hp j _ e trivial).symm c
        | own M => exact absurd (hp j _ e trivial).symm c
        | gh d M => exact absurd (hp j _ e trivial).symm c
    · have key : ∀ (y : Nat) (u : Sl), (Ga.set i (.own M))[y]? = some u → u.mut → y = i := fun y u e mu => by
        by_cases c : i = y
        · exact c.symm
        · rw [List.getElem?_set_ne c] at e; exact hp y u e mu
      exact absurd ((key j s e1 m1).trans (key k t e2 m2).symm) hn
  refine h ⟨some a, G, H⟩ σ G H D ⟨I', Step.refl I.sub⟩ (fun σ' G' H' ex f' => ?_) fun v G' H' r => ?_
  · have f' : FS ⟨some a, G, H⟩ Gn σ' G' H' := f'
    obtain ⟨⟨ad', J⟩, t⟩ := f'
    have t : Step (some a) G H G' H' := t
    refine kn σ' G' H' ex ⟨⟨ad', J.sub, J.len, fun j s e => ?_, fun j k s t hn' e1 e2 m1 m2 => absurd m1 (hn j s e1), fun c ec => ?_⟩, st.absorb t hF nq⟩
    · have kk := J.ok j s e
      cases s with
      | any => trivial
      | is P => exact kk
      | mu M => exact absurd trivial (hn j _ e)
      | own M => exact absurd trivial (hn j _ e)
      | gh d M => exact absurd trivial (hn j _ e)
    · obtain ⟨g, u, hu⟩ := I.qt c ec
      have hu' := t.f c u (fun z => nq (by rw [ec]; exact z.symm)) hu
      refine ⟨?_, u, hu'⟩
      cases e : G' c with
      | none => rfl
      | some w =>
        rcases t.n c w e with ⟨w', e'⟩ | e'
        · rw [g] at e'; cases e'
        · rw [hu] at e'; cases e'
  · exact kr v G' H' ⟨st.absorb r.st hF nq, r.r, fun M e => nomatch e⟩
end
end Ty
end
section
/-! x = [list(y) for y in e]; x[i][j] = v. -/
namespace Ty
open PySem PySem.Spec PyProof.Rows L2
open Evl (Ex)
/-! ### several objects come to be known -/
def knowA (G H : Hp) (as : List Addr) : Hp := fun x => if x ∈ as then H x else G x
theorem knowA_in {G H : Hp} {as : List Addr} {a : Addr} (h : a ∈ as) : knowA G H as a = H a := if_pos h
theorem knowA_out {G H : Hp} {as : List Addr} {a : Addr} (h : a ∉ as) : knowA G H as a = G a := if_neg h
section
variable {q : Option Addr} {F : Addr → Prop} {Ga : List Sl} {σ : L2.St} {G H G0 H0 : Hp} {as : List Addr}
theorem knowA_ex (hg : ∀ a ∈ as, G a = none) : Ex G (knowA G H as) := fun a u e => by
  rw [knowA_out fun h => by rw [hg a h] at e; cases e]; exact e
theorem SI.knowA (h : SI q (fun a => F a ∧ a ∉ as) Ga σ G H) (hq : ∀ a ∈ as, q ≠ some a) (hg : ∀ a ∈ as, G a = none) : SI q F Ga σ (knowA G H as) H := by
  obtain ⟨ad, h⟩ := h
  have ex : Ex G (Ty.knowA G H as) := knowA_ex hg
  refine ⟨ad, fun a u e => ?_, h.len, fun i s e => ?_, h.ne, fun a e => ?_⟩
  · by_cases c : a ∈ as
    · rw [knowA_in c] at e; exact e
    · rw [knowA_out c] at e; exact h.sub a u e
  · have k := h.ok i s e
    cases s with
    | any => trivial
    | is P => obtain ⟨v, e, k⟩ := k; exact ⟨v, e, P.mono ex k⟩
    | mu M => obtain ⟨e, nq, f, g, o, ho, m⟩ := k; exact ⟨e, nq, f.1, by rw [knowA_out f.2]; exact g, o, ho, M.mono ex m⟩
    | gh b M => obtain ⟨e, nq, f, g, o, ho, m⟩ := k; exact ⟨e, nq, f.1, by rw [knowA_out f.2]; exact g, o, ho, M.mono ex m⟩
    | own M => obtain ⟨e, eq, g, o, ho, m⟩ := k; exact ⟨e, eq, by rw [knowA_out fun z => hq _ z eq]; exact g, o, ho, M.mono ex m⟩
  · obtain ⟨g, o', e'⟩ := h.qt a e
    exact ⟨by rw [knowA_out fun z => hq _ z e]; exact g, o', e'⟩
theorem SI.apartA (h : SI q F Ga σ G H) (hp : ∀ a ∈ as, H a = none) : SI q (fun a => F a ∧ a ∉ as) Ga σ G H := by
  obtain ⟨ad, h⟩ := h
  refine ⟨ad, h.sub, h.len, fun i s e => ?_, h.ne, h.qt⟩
  have k := h.ok i s e
  cases s with
  | any => trivial
  | is P => exact k
  | mu M => obtain ⟨e, nq, f, g, o, ho, m⟩ := k; exact ⟨e, nq, ⟨f, fun z => by rw [hp _ z] at ho; cases ho⟩, g, o, ho, m⟩
  | own M => exact k
  | gh b M => obtain ⟨e, nq, f, g, o, ho, m⟩ := k; exact ⟨e, nq, ⟨f, fun z => by rw [hp _ z] at ho; cases ho⟩, g, o, ho, m⟩
theorem Step.knowA (t : Step q G0 H0 G H) (hp : ∀ a ∈ as, H0 a = none) (hg : ∀ a ∈ as, G a = none) : Step q G0 H0 (knowA G H as) H := by
  refine ⟨Ex.trans t.k (knowA_ex hg), fun a u e => ?_, t.f, fun a u e => ?_, t.r⟩
  · by_cases c : a ∈ as
    · rw [knowA_in c] at e; exact e
    · rw [knowA_out c] at e; exact t.s a u e
  · by_cases c : a ∈ as
    · exact .inr (hp a c)
    · rw [knowA_out c] at e; exact t.n a u e
theorem Step.keepF {G' H' : Hp} (t : Step q G H G' H') {a : Addr} {o : HO} (nq : q ≠ some a) (hg : G a = none) (ho : H a = some o) : G' a = none ∧ H' a = some o := by
  refine ⟨?_, t.f a o nq ho⟩
  cases e : G' a with
  | none => rfl
  | some u =>
    rcases t.n a u e with ⟨u', e'⟩ | e'
    · rw [hg] at e'; cases e'
    · rw [ho] at e'; cases e'
end
/-- new objects, one for each item -/
structure FrL {α : Type} (q : Option Addr) (Mx : α → Mo) (ds : List α) (as : List Addr) (H G' H' : Hp) : Prop where
  len : as.length = ds.length
  nd : as.Nodup
  at_ : ∀ (i : Nat) (a : Addr) (d : α), as[i]? = some a → ds[i]? = some d → H a = none ∧ q ≠ some a ∧ G' a = none ∧ ∃ o, H' a = some o ∧ (Mx d).m o G'
theorem FrL.mem {α : Type} {q : Option Addr} {Mx : α → Mo} {ds : List α} {as : List Addr} {H G' H' : Hp} (h : FrL q Mx ds as H G' H') {a : Addr} (ha : a ∈ as) : H a = none ∧ q ≠ some a ∧ G' a = none ∧ ∃ o, H' a = some o := by
  obtain ⟨i, hi⟩ := List.getElem?_of_mem ha
  have hl : i < ds.length := by rw [← h.len]; exact (List.getElem?_eq_some_iff.mp hi).1
  obtain ⟨h1, h2, h3, o, h4, _⟩ := h.at_ i a _ hi (List.getElem?_eq_getElem hl)
  exact ⟨h1, h2, h3, o, h4⟩
theorem FrL.step {α : Type} {q : Option Addr} {Mx : α → Mo} {ds : List α} {as : List Addr} {H G1 H1 G2 H2 : Hp} (h : FrL q Mx ds as H G1 H1) (t : Step q G1 H1 G2 H2) : FrL q Mx ds as H G2 H2 :=
  ⟨h.len, h.nd, fun i a d e1 e2 => by
    obtain ⟨h1, h2, h3, o, h4, m⟩ := h.at_ i a d e1 e2
    obtain ⟨g, ho⟩ := t.keepF h2 h3 h4
    exact ⟨h1, h2, g, o, ho, (Mx d).mono t.k m⟩⟩
theorem FrL.off {α : Type} {q : Option Addr} {Mx : α → Mo} {ds : List α} {as : List Addr} {H G1 H1 : Hp} {D : Addr} {o : HO} (h : FrL q Mx ds as H G1 H1) (hD : D ∉ as) : FrL q Mx ds as H G1 (upd H1 D o) :=
  ⟨h.len, h.nd, fun i a d e1 e2 => by
    obtain ⟨h1, h2, h3, o, h4, m⟩ := h.at_ i a d e1 e2
    exact ⟨h1, h2, h3, o, by rw [upd_ne fun z => hD (by rw [← z]; exact List.mem_of_getElem? e1)]; exact h4, m⟩⟩
section
variable {ι : Type} {X : ι → Cx} {Ga Gb : List Sl} {elt iter : Expr} {scope : Scope} {pos spos px py : Pos} {x y : Str} {α : Type}
/-- [elt for x in iter], each item a new object that may change -/
theorem lc_fresh {ds : List α} {it : α → Pd} {Mx : α → Mo} (k : Nat) (nd : ∀ i, (X i).N.Nodup) (hi : TyI X Ga (.Name x px) iter (ds.map it) Gb) (he : ∀ d ∈ ds, TyN (uE (blkX X scope) elt) ((wipeG Gb [k]).set k (.is (it d))) (Mx d) ((wipeG Gb [k]).set k (.is (it d)))) (hz : ds.length ≤ sizeLine) (hO : ∀ i M, Gb[i]? = some (Sl.own M) → i ≠ k)
    (hN : ∀ i, (X i).N[k]? = some x := by intro i; rfl) (hx : ∀ i, Loc (blkX X scope i).env.scope x := by intro i; first | exact Or.inl rfl | exact Or.inr rfl) (hf : ∀ i, (blkX X scope i).fn x = true ∨ (blkX X scope i).env.scope.names.lookup x = some .local := by intro i; first | exact .inl rfl | exact .inr rfl)
    (q : Option Addr) (F : Addr → Prop) (σ : L2.St) (G H : Hp) (I : SI q F Ga σ G H) (Q : VK)
    (kk : ∀ D as G' H', Step q G H G' H' → SI q (fun a => F a ∧ a ∉ D :: as) Gb σ G' H' → q ≠ some D → H D = none → G' D = none → D ∉ as → H' D = some (.lst (as.map V.ref)) → FrL q Mx ds as H G' H' → Q (.ref D) H') :
    tLc (uI X (.Name x px) iter) (uG (blkX X scope) (.Name x px)) tYes (uE (blkX X scope) elt) [k] σ H Q := by
  refine hi q F σ G H I _ fun J G1 H1 t1 I1 wt D hD => ?_
  have lm : (ds.map it).length = ds.length := List.length_map _
  obtain ⟨I1a, nq⟩ := I1.apart hD
  have gD : G1 D = none := Evl.fresh_back I1.sub hD
  have back : ∀ {a : Addr}, q ≠ some a → H1 a = none → H a = none := fun {a} n h => by
    cases e : H a with
    | none => rfl
    | some u => rw [t1.f a u n e] at h; cases h
  refine ⟨fun i m H' => m = ds.length - i ∧ i ≤ ds.length ∧ ∃ G' as, Step q G1 H1 G' H' ∧ SI q (fun a => F a ∧ a ∉ D :: as) (wipeG Gb [k]) (L2.wipe σ [k]) G' H' ∧ H' D = some (.lst (as.map V.ref)) ∧ G' D = none ∧ D ∉ as ∧ FrL q Mx (ds.take i) as H1 G' H', ⟨ds.length, ?_⟩, ?_⟩
  · refine ⟨by simp, Nat.zero_le _, G1, [], (Step.refl I1.sub).off hD gD nq, ((I1a.off nq gD).wipe [k]).monoF (fun a h => ⟨h.1, by simpa using h.2⟩), upd_same, gD, by simp, ?_⟩
    exact ⟨rfl, List.nodup_nil, fun i a d e => by simp at e⟩
  rintro i m H2 ⟨rfl, hle, G2, as, t2, I2, hd, gd, hDas, fr⟩
  by_cases hlt : i < ds.length
  · refine .inr ⟨wt.go i G2 H2 t2.k I2.sub (by rw [lm]; exact hlt), fun H' => i + 1 ≤ ds.length ∧ ∃ G' as, Step q G1 H1 G' H' ∧ SI q (fun a => F a ∧ a ∉ D :: as) (wipeG Gb [k]) (L2.wipe σ [k]) G' H' ∧ H' D = some (.lst (as.map V.ref)) ∧ G' D = none ∧ D ∉ as ∧ FrL q Mx (ds.take (i + 1)) as H1 G' H',
      fun H' ⟨h1, h2⟩ => ⟨ds.length - (i + 1), by omega, rfl, h1, h2⟩, fun x' H3 yy => ?_⟩
    obtain ⟨d, hdi⟩ : ∃ d, ds[i]? = some d := ⟨ds[i], by simp [hlt]⟩
    have hmem : d ∈ ds := List.mem_of_getElem? hdi
    obtain ⟨G3, t3, p3⟩ := wt.yld i (it d) G2 H2 x' H3 t2.k I2.sub (by rw [List.getElem?_map, hdi]; rfl) yy
    have hgn := g_name (X := blkX X scope) (Ga := wipeG Gb [k]) (P := it d) (i := k) (pos := px) fun i => pg_name (X := blkX X scope i) (nd i.1) (hN i.1) (hx i) (hf i)
    refine hgn q _ _ G3 H3 x' (I2.pure t3) p3 _ fun σ4 G4 H4 t4 o4 I4 => ⟨(o4.wipe (vs := [k]) (fun _ h => h)).trans (wipe_wipe σ [k]), ?_⟩
    have ew : L2.wipe σ4 [k] = L2.wipe σ [k] := (o4.wipe (vs := [k]) (fun _ h => h)).trans (wipe_wipe σ [k])
    refine tt_yes q _ σ4 G4 H4 I4 _ fun G5 H5 t5 I5 => ?_
    have t24 : Step q G2 H2 G5 H5 := (t3.any.trans t4).trans t5
    rw [if_pos rfl]
    refine he d hmem q _ σ4 G5 H5 I5 _ fun p o G6 H6 t6 I6 nqp hp4 gp6 hp6 mp => ?_
    have t26 := t24.trans t6
    obtain ⟨gd4, hd4⟩ := t24.keepF nq gd hd
    obtain ⟨gd6, hd6⟩ := t26.keepF nq gd hd
    have hpD : p ≠ D := fun z => by rw [z, hd4] at hp4; cases hp4
    have fr4 := fr.step t24
    have hpas : p ∉ as := fun z => by
      obtain ⟨_, _, _, u, hu⟩ := fr4.mem z
      rw [hu] at hp4; cases hp4
    have hp1 : H1 p = none := by
      cases e : H1 p with
      | none => rfl
      | some u => rw [(t2.trans t24).f p u nqp e] at hp4; cases hp4
    have fr6 := (fr.step t26).off (o := .lst ((as ++ [p]).map V.ref)) hDas
    have hDn : D ∉ as ++ [p] := by
      rw [List.mem_append, List.mem_singleton]
      exact fun z => z.elim hDas fun z => hpD z.symm
    refine ⟨as.map V.ref, hd6, by rw [List.length_map, fr.len, List.length_take]; omega, hlt, G6, as ++ [p], (t2.trans t26).off hD gd6 nq, ?_, by rw [List.map_append]; exact upd_same, gd6, hDn, ?_⟩
    · have I7 := I6.wipe [k]
      rw [ew] at I7
      have e1 : wipeG ((wipeG Gb [k]).set k (.is (it d))) [k] = wipeG Gb [k] := by
        show ((Gb.set k .any).set k _).set k .any = Gb.set k .any
        rw [List.set_set, List.set_set]
      rw [e1] at I7
      have I8 : SI q (fun a => (F a ∧ a ∉ as ++ [p]) ∧ a ≠ D) (wipeG Gb [k]) (L2.wipe σ [k]) G6 H6 := I7.monoF fun a h => by
        have h1 := h.1.2
        rw [List.mem_cons, not_or] at h1
        refine ⟨⟨h.1.1, ?_⟩, h1.1⟩
        rw [List.mem_append, List.mem_singleton]
        exact fun z => z.elim h1.2 h.2
      refine (I8.off nq gd6).monoF fun a h => ⟨h.1.1, ?_⟩
      rw [List.mem_cons]
      exact fun z => z.elim h.2 h.1.2
    · have ln := fr6.len
      refine ⟨by rw [List.length_append, List.length_singleton, ln, take_more hdi, List.length_append, List.length_singleton], ?_, fun j a d' e1 e2 => ?_⟩
      · rw [List.nodup_append]
        exact ⟨fr6.nd, by simp, fun a ha b hb => by rw [List.mem_singleton.mp hb]; exact fun z => hpas (z ▸ ha)⟩
      · rw [List.map_append] at *
        have lt : (ds.take i).length = i := by rw [List.length_take]; omega
        rw [take_more hdi] at e2
        by_cases c : j < as.length
        · rw [List.getElem?_append_left c] at e1
          rw [List.getElem?_append_left (by rw [← ln]; exact c)] at e2
          exact fr6.at_ j a d' e1 e2
        · rw [List.getElem?_append_right (by omega)] at e1
          rw [List.getElem?_append_right (by rw [← ln]; omega)] at e2
          have c0 : j - as.length = 0 := by
            have := (List.getElem?_eq_some_iff.mp e1).1
            rw [List.length_singleton] at this; omega
          have c1 : j - (ds.take i).length = 0 := by rw [← ln]; exact c0
          rw [c0] at e1
          rw [c1] at e2
          cases e1
          cases e2
          exact ⟨hp1, nqp, gp6, o, by rw [upd_ne hpD]; exact hp6, mp⟩
  · have e : i = ds.length := by omega
    subst e
    refine .inl ⟨?_, ?_⟩
    · have := wt.stop G2 H2 t2.k I2.sub
      rw [lm] at this
      exact this
    · rw [List.take_length] at fr
      refine kk D as G2 H2 (t1.trans t2) ?_ nq (back nq hD) gd hDas hd ⟨fr.len, fr.nd, fun j a d e1 e2 => ?_⟩
      · have I1b : SI q (fun a => F a ∧ a ∉ D :: as) Gb σ G1 H1 := I1.apartA fun a h => by
          rcases List.mem_cons.mp h with rfl | h
          · exact hD
          · exact (fr.mem h).1
        exact I1b.back t2 I2 (OwnUpd.refl fun i M h => by have := hO i M h; simpa using this)
      · obtain ⟨h1, h2, h3, h4⟩ := fr.at_ j a d e1 e2
        exact ⟨back h2 h1, h2, h3, h4⟩
end
end Ty
end
section
/-! The two statements together; stores at drawn places. -/
namespace Ty
open PySem PySem.Spec PyProof.Rows L2
open Evl (Ex)
theorem AllP.mk {G : Hp} : ∀ {Ps : List Pd} {vs : List V}, vs.length = Ps.length → (∀ (i : Nat) (P : Pd) (v : V), Ps[i]? = some P → vs[i]? = some v → P.p v G) → AllP Ps vs G
  | [], [], _, _ => trivial
  | P :: Ps, v :: vs, hl, h => ⟨h 0 P v rfl rfl, AllP.mk (by simpa using hl) fun i P' v' h1 h2 => h (i + 1) P' v' (by simpa using h1) (by simpa using h2)⟩
  | [], _ :: _, hl, _ => by simp at hl
  | _ :: _, [], hl, _ => by simp at hl
section
variable {ι : Type} {X : ι → Cx} {Ga Gb Gc : List Sl} {e elt iter : Expr} {scope : Scope} {pos pos2 spos px py pz pu pv pw sp1 sp2 lp lpos p : Pos} {x y u v w : Str} {α : Type} {n : Option (List Sl)} {R : Pd} {O : Option Mo} {rest : List Stmt} {K : PySem.W.Frag} {P : Pd} {Qs : List Pd}
/-- list(e), a new list that may change -/
theorem n_listSq (hm : ∀ i, (X i).mg "list" = none) (hK : ∀ i, (X i).K = K) (ha : TyE X Ga e P Gb) (hq : ∀ v G, P.p v G → (Sq Qs).p v G) (hg : ∀ i, Gl (X i) "list" := by intro i; rfl) (hs : ∀ i, starEach [e] (X i).env = (false, eval e (X i).env) :: starEach [] (X i).env := by intro i; rfl) (hpl : ∀ i, (backTo pos (starEach [] (X i).env)).any (·.1) = false := by intro i; rfl) :
    TyN (uE X (.Call (.Name "list" p) [e] [] pos)) Ga (Ml Qs) Gb := fun q F σ G H I Q k => by
  refine ⟨tCB (fun xs H Q => ∃ p ys, xs = [.ref p] ∧ (SqL K H p ys ∨ SqT K H p ys) ∧ ∀ l, H l = none → Q (.ref l) (upd H l (.lst ys))) (uA X [e]), fun i => pe_callTy (by have := call_list_of (X := X i); rw [hK i] at this; exact this) (hg i) (hm i) bo_list (uA_pa i) (by decide) (by decide) (hs i) (hpl i), ?_⟩
  refine a_1 (ha.conv hq) hs q F σ G H I _ fun vs G1 H1 t1 I1 p1 => ?_
  match vs, p1 with
  | [v], ⟨p1, _⟩ =>
    obtain ⟨a, ys, rfl, h, hp⟩ := p1
    refine ⟨a, ys, rfl, h.elim (fun z => .inl (SqL.of (I1.sub _ _ z))) (fun z => .inr (SqT.of (I1.sub _ _ z))), fun l hn => ?_⟩
    obtain ⟨I2, nq⟩ := I1.apart hn
    have t2 : Step q G1 H1 G1 (upd H1 l (.lst ys)) := Step.newM I1.sub hn
    have h0 : H l = none := by
      cases e : H l with
      | none => rfl
      | some u => rw [t1.f l u nq e] at hn; cases hn
    refine k l _ _ _ (t1.trans t2) (I2.step t2 fun b o eb e => ?_) nq h0 (Evl.fresh_back I1.sub hn) upd_same ⟨ys, rfl, hp⟩
    rw [upd_ne (fun z => nq (by rw [eb, z]))]; exact e
/-- x = [elt for y in iter]; x[u][v] = w: the items are new lists -/
theorem b_copyset0 {ds : List α} {it : α → Pd} {Ps : α → List Pd} {r c : Nat} {d0 : α} {P : Pd} (m k iu iv iw : Nat) (hK : ∀ l, (X l).K = K) (nd : ∀ i, (X i).N.Nodup) (calm : ∀ i, (X i).calm = true) (hi : TyI X Ga (.Name y py) iter (ds.map it) Gb)
    (he : ∀ d ∈ ds, TyN (uE (blkX X scope) elt) ((wipeG Gb [k]).set k (.is (it d))) (Ml (Ps d)) ((wipeG Gb [k]).set k (.is (it d)))) (hz : ds.length ≤ sizeLine) (hO : ∀ i M, Gb[i]? = some (Sl.own M) → i ≠ k)
    (hd : ds[r]? = some d0) (hc : c < (Ps d0).length) (hvx : ∀ j, PE (X j) (.Name x pz) (tVar m)) (hvu : ∀ j, PE (X j) (.Name u pu) (tVar iu)) (hvv : ∀ j, PE (X j) (.Name v pv) (tVar iv)) (hvw : ∀ j, PE (X j) (.Name w pw) (tVar iw))
    (hu : Gb[iu]? = some (.is (IsI (r : Nat)))) (hv : Gb[iv]? = some (.is (IsI (c : Nat)))) (hw : Gb[iw]? = some (.is P)) (hmu : m ≠ iu ∧ m ≠ iv ∧ m ≠ iw) (hml : m < Gb.length)
    (hr : TyB X (Gb.set m (.is (Ls ((ds.map fun d => Ls (Ps d)).set r (Ls ((Ps d0).set c P)))))) rest n R O)
    (mk1 : ∀ l, PS (X l) (.Assign [.Name x px] (.ListComp elt [⟨.Name y py, iter, [], 0⟩] scope pos) spos) (tAsg (tLc (uI X (.Name y py) iter) (uG (blkX X scope) (.Name y py)) tYes (uE (blkX X scope) elt) [k]) (gName m)))
    (hN : ∀ i, (X i).N[k]? = some y := by intro i; rfl) (hx : ∀ i, Loc (blkX X scope i).env.scope y := by intro i; first | exact Or.inl rfl | exact Or.inr rfl) (hf : ∀ i, (blkX X scope i).fn y = true ∨ (blkX X scope i).env.scope.names.lookup y = some .local := by intro i; first | exact .inl rfl | exact .inr rfl)
    (mk2 : ∀ (l : ι), PE (X l) (.Name w pw) (tVar iw) → PE (X l) (.Name x pz) (tVar m) → PE (X l) (.Name u pu) (tVar iu) → PE (X l) (.Name v pv) (tVar iv) → PS (X l) (.Assign [.Subscript (.Subscript (.Name x pz) (.Name u pu) sp1) (.Name v pv) sp2] (.Name w pw) pos2) (tAsg (tVar iw) (gSub (tOp (rIx (X l).K) (tVar m) (tVar iu)) (tVar iv) rSetL)) := by exact fun _ h1 h2 h3 h4 => ps_asg h1 (pg_sub (pe_ix ix_seq h2 h3 (fun _ _ => rfl)) h4 set_list)) :
    TyB X Ga (.Assign [.Name x px] (.ListComp elt [⟨.Name y py, iter, [], 0⟩] scope pos) spos :: .Assign [.Subscript (.Subscript (.Name x pz) (.Name u pu) sp1) (.Name v pv) sp2] (.Name w pw) pos2 :: rest) n R O := fun b σ G H D f kn kr => by
  refine ⟨tSeq (tAsg (tLc (uI X (.Name y py) iter) (uG (blkX X scope) (.Name y py)) tYes (uE (blkX X scope) elt) [k]) (gName m)) (tSeq (tAsg (tVar iw) (gSub (tOp (rIx K) (tVar m) (tVar iu)) (tVar iv) rSetL)) (uB X rest)), fun l => pss_cons (mk1 l) (pss_cons (by have := mk2 l (hvw l) (hvx l) (hvu l) (hvv l); rw [hK l] at this; exact this) (uB_ps l)), ?_⟩
  unfold tSeq tAsg
  refine lc_fresh k nd hi he hz hO hN hx hf b.q (Fr b) σ G H f.si _ fun Da as G1 H1 t1 I1 nq hD0 gD hDas hD fr => ?_
  have hrl : r < ds.length := (List.getElem?_eq_some_iff.mp hd).1
  obtain ⟨ar, har⟩ : ∃ a, as[r]? = some a := ⟨as[r]'(by rw [fr.len]; exact hrl), List.getElem?_eq_getElem _⟩
  obtain ⟨ha0, nqa, ga, o, hao, xs, rfl, hxs⟩ := fr.at_ r ar d0 har hd
  have hmem : ar ∈ as := List.mem_of_getElem? har
  have neD : ar ≠ Da := fun z => hDas (z ▸ hmem)
  obtain ⟨w0, ew, pw0⟩ := I1.get hw
  obtain ⟨u0, eu, pu0⟩ := I1.get hu
  obtain ⟨v0, ev, pv0⟩ := I1.get hv
  have lm : m < σ.length := by obtain ⟨ad, I⟩ := I1; rw [I.len]; exact hml
  refine ⟨w0, by rw [List.getElem?_set_ne hmu.2.2]; exact ew, .ref Da, by rw [List.getElem?_set_self lm], u0, by rw [List.getElem?_set_ne hmu.1]; exact eu, ?_⟩
  refine .inl ⟨Da, as.map V.ref, (r : Int), .ref ar, rfl, pu0, SqL.of hD, atI_nat (by rw [List.getElem?_map, har]; rfl), v0, by rw [List.getElem?_set_ne hmu.2.1]; exact ev, ar, xs, (c : Int), c, rfl, pv0, hao, ?_, ?_⟩
  · unfold ixN
    rw [if_pos (by omega), if_pos (by rw [hxs.length]; omega), Int.toNat_natCast]
  let H2 := upd H1 ar (.lst (xs.set c w0))
  let G2 := knowA G1 H2 (Da :: as)
  have hgn : ∀ a ∈ Da :: as, G1 a = none := fun a h => by
    rcases List.mem_cons.mp h with rfl | h
    · exact gD
    · exact (fr.mem h).2.2.1
  have hqn : ∀ a ∈ Da :: as, b.q ≠ some a := fun a h => by
    rcases List.mem_cons.mp h with rfl | h
    · exact nq
    · exact (fr.mem h).2.1
  have hHn : ∀ a ∈ Da :: as, b.H0 a = none := fun a h => by
    have h0 : H a = none := by
      rcases List.mem_cons.mp h with rfl | h
      · exact hD0
      · exact (fr.mem h).1
    cases e : b.H0 a with
    | none => rfl
    | some z => rw [f.st.f a z (hqn a h) e] at h0; cases h0
  have ex : Ex G1 G2 := knowA_ex hgn
  have I2 : SI b.q (fun a => Fr b a ∧ a ∉ Da :: as) Gb σ G1 H2 := ((I1.monoF (F := fun a => (Fr b a ∧ a ∉ Da :: as) ∧ a ≠ ar) fun a h => ⟨h, fun z => h.2 (by rw [z]; exact List.mem_cons_of_mem _ hmem)⟩).off nqa ga).monoF fun a h => h.1
  have I3 : SI b.q (Fr b) Gb σ G2 H2 := I2.knowA hqn hgn
  have st : Step b.q b.G0 b.H0 G2 H2 := ((f.st.trans t1).off (hHn ar (List.mem_cons_of_mem _ hmem)) ga nqa).knowA hHn hgn
  have kD : G2 Da = some (.lst (as.map V.ref)) := by
    show knowA G1 H2 (Da :: as) Da = _
    rw [knowA_in List.mem_cons_self]
    show upd H1 ar _ Da = _
    rw [upd_ne (Ne.symm neD)]; exact hD
  have kA : ∀ a ∈ as, G2 a = H2 a := fun a h => knowA_in (List.mem_cons_of_mem _ h)
  have pN : (Ls ((ds.map fun d => Ls (Ps d)).set r (Ls ((Ps d0).set c P)))).p (.ref Da) G2 := by
    refine ⟨Da, as.map V.ref, rfl, kD, AllP.mk (by rw [List.length_map, List.length_set, List.length_map, fr.len]) fun i P' v' e1 e2 => ?_⟩
    rw [List.getElem?_map] at e2
    cases ea : as[i]? with
    | none => rw [ea] at e2; cases e2
    | some a =>
      rw [ea] at e2
      cases e2
      by_cases ci : r = i
      · subst ci
        rw [List.getElem?_set_self (by rw [List.length_map]; exact hrl)] at e1
        cases e1
        rw [har] at ea
        cases ea
        exact ⟨ar, xs.set c w0, rfl, by rw [kA ar hmem]; exact upd_same, AllP.set (P.mono ex pw0) c (hxs.mono ex)⟩
      · rw [List.getElem?_set_ne ci, List.getElem?_map] at e1
        cases ed : ds[i]? with
        | none => rw [ed] at e1; cases e1
        | some d =>
          rw [ed] at e1
          cases e1
          obtain ⟨_, _, _, o, ho, ys, rfl, hys⟩ := fr.at_ i a d ea ed
          have hne : a ≠ ar := fun z => by
            subst z
            exact ci ((List.getElem?_inj (List.getElem?_eq_some_iff.mp har).1 fr.nd).mp (har.trans ea.symm))
          refine ⟨a, ys, rfl, ?_, hys.mono ex⟩
          rw [kA a (List.mem_of_getElem? ea)]
          show upd H1 ar _ a = _
          rw [upd_ne hne]; exact ho
  exact hr b (σ.set m (some (.ref Da))) G2 H2 D ⟨I3.put pN, st⟩ (fun σ3 G3 H3 e3 f3 => kn σ3 G3 H3 (Ex.trans t1.k (Ex.trans ex e3)) f3) kr
theorem b_copyset {ds : List α} {it : α → Pd} {Ps : α → List Pd} {r c : Nat} {d0 : α} {P : Pd} (m k iu iv iw : Nat) (hK : ∀ l, (X l).K = K) (nd : ∀ i, (X i).N.Nodup) (calm : ∀ i, (X i).calm = true) (hi : TyI X Ga (.Name y py) iter (ds.map it) Gb)
    (he : ∀ d ∈ ds, TyN (uE (blkX X scope) elt) ((wipeG Gb [k]).set k (.is (it d))) (Ml (Ps d)) ((wipeG Gb [k]).set k (.is (it d)))) (hz : ds.length ≤ sizeLine) (hO : ∀ i M, Gb[i]? = some (Sl.own M) → i ≠ k)
    (hd : ds[r]? = some d0) (hc : c < (Ps d0).length) (hvx : ∀ j, PE (X j) (.Name x pz) (tVar m)) (hvu : ∀ j, PE (X j) (.Name u pu) (tVar iu)) (hvv : ∀ j, PE (X j) (.Name v pv) (tVar iv)) (hvw : ∀ j, PE (X j) (.Name w pw) (tVar iw))
    (hu : Gb[iu]? = some (.is (IsI (r : Nat)))) (hv : Gb[iv]? = some (.is (IsI (c : Nat)))) (hw : Gb[iw]? = some (.is P)) (hmu : m ≠ iu ∧ m ≠ iv ∧ m ≠ iw) (hml : m < Gb.length)
    (hr : TyB X (Gb.set m (.is (Ls ((ds.map fun d => Ls (Ps d)).set r (Ls ((Ps d0).set c P)))))) rest n R O)
    (ok : ∀ i, BlkOk (X i).N (X i).env.scope scope [(y, k)] := by intro i; exact blkOk_by rfl) (hs : ∀ i x, foldedSetIterable iter (X i).env x = pure x := by intro _ _; rfl)
    (hN : ∀ i, (X i).N[k]? = some y := by intro i; rfl) (hx : ∀ i, Loc (blkX X scope i).env.scope y := by intro i; first | exact Or.inl rfl | exact Or.inr rfl) (hf : ∀ i, (blkX X scope i).fn y = true ∨ (blkX X scope i).env.scope.names.lookup y = some .local := by intro i; first | exact .inl rfl | exact .inr rfl)
    (hy : ∀ i, (X i).N[m]? = some x := by intro i; rfl) (hyl : ∀ i, (X i).env.scope.names.lookup x = some .local := by intro i; rfl) (hsw : ∀ i, swapsWith (.ListComp elt [⟨.Name y py, iter, [], 0⟩] scope pos) (some (.Name x px)) spos.line (X i).env = pure true := by intro i; exact sw_true rfl rfl rfl rfl)
    (mk2 : ∀ (l : ι), PE (X l) (.Name w pw) (tVar iw) → PE (X l) (.Name x pz) (tVar m) → PE (X l) (.Name u pu) (tVar iu) → PE (X l) (.Name v pv) (tVar iv) → PS (X l) (.Assign [.Subscript (.Subscript (.Name x pz) (.Name u pu) sp1) (.Name v pv) sp2] (.Name w pw) pos2) (tAsg (tVar iw) (gSub (tOp (rIx (X l).K) (tVar m) (tVar iu)) (tVar iv) rSetL)) := by exact fun _ h1 h2 h3 h4 => ps_asg h1 (pg_sub (pe_ix ix_seq h2 h3 (fun _ _ => rfl)) h4 set_list)) :
    TyB X Ga (.Assign [.Name x px] (.ListComp elt [⟨.Name y py, iter, [], 0⟩] scope pos) spos :: .Assign [.Subscript (.Subscript (.Name x pz) (.Name u pu) sp1) (.Name v pv) sp2] (.Name w pw) pos2 :: rest) n R O :=
  b_copyset0 m k iu iv iw hK nd calm hi he hz hO hd hc hvx hvu hvv hvw hu hv hw hmu hml hr (fun l => mk_sl calm nd hy hyl hsw ok hs l) hN hx hf mk2
theorem b_copysetC {ds : List α} {it : α → Pd} {Ps : α → List Pd} {r c : Nat} {d0 : α} {P : Pd} (m k iu iv iw : Nat) (hK : ∀ l, (X l).K = K) (nd : ∀ i, (X i).N.Nodup) (calm : ∀ i, (X i).calm = true) (hi : TyI X Ga (.Name y py) iter (ds.map it) Gb)
    (he : ∀ d ∈ ds, TyN (uE (blkX X scope) elt) ((wipeG Gb [k]).set k (.is (it d))) (Ml (Ps d)) ((wipeG Gb [k]).set k (.is (it d)))) (hz : ds.length ≤ sizeLine) (hO : ∀ i M, Gb[i]? = some (Sl.own M) → i ≠ k)
    (hd : ds[r]? = some d0) (hc : c < (Ps d0).length) (hvx : ∀ j, PE (X j) (.Name x pz) (tVar m)) (hvu : ∀ j, PE (X j) (.Name u pu) (tVar iu)) (hvv : ∀ j, PE (X j) (.Name v pv) (tVar iv)) (hvw : ∀ j, PE (X j) (.Name w pw) (tVar iw))
    (hu : Gb[iu]? = some (.is (IsI (r : Nat)))) (hv : Gb[iv]? = some (.is (IsI (c : Nat)))) (hw : Gb[iw]? = some (.is P)) (hmu : m ≠ iu ∧ m ≠ iv ∧ m ≠ iw) (hml : m < Gb.length)
    (hr : TyB X (Gb.set m (.is (Ls ((ds.map fun d => Ls (Ps d)).set r (Ls ((Ps d0).set c P)))))) rest n R O)
    (ok : ∀ i, BlkOk (X i).N (X i).env.scope scope [(y, k)] := by intro i; exact blkOk_by rfl) (hs : ∀ i x, foldedSetIterable iter (X i).env x = pure x := by intro _ _; rfl)
    (hN : ∀ i, (X i).N[k]? = some y := by intro i; rfl) (hx : ∀ i, Loc (blkX X scope i).env.scope y := by intro i; first | exact Or.inl rfl | exact Or.inr rfl) (hf : ∀ i, (blkX X scope i).fn y = true ∨ (blkX X scope i).env.scope.names.lookup y = some .local := by intro i; first | exact .inl rfl | exact .inr rfl)
    (hy : ∀ i, (X i).N[m]? = some x := by intro i; rfl) (hxc : ∀ i, Loc (X i).env.scope x := by intro i; first | exact Or.inl rfl | exact Or.inr rfl) (hsw : ∀ i, swapsWith (.ListComp elt [⟨.Name y py, iter, [], 0⟩] scope pos) (some (.Name x px)) spos.line (X i).env = pure false := by intro i; rfl) (hfc : ∀ i, (X i).fn x = true ∨ (X i).env.scope.names.lookup x = some .local := by intro i; first | exact .inl rfl | exact .inr rfl)
    (mk2 : ∀ (l : ι), PE (X l) (.Name w pw) (tVar iw) → PE (X l) (.Name x pz) (tVar m) → PE (X l) (.Name u pu) (tVar iu) → PE (X l) (.Name v pv) (tVar iv) → PS (X l) (.Assign [.Subscript (.Subscript (.Name x pz) (.Name u pu) sp1) (.Name v pv) sp2] (.Name w pw) pos2) (tAsg (tVar iw) (gSub (tOp (rIx (X l).K) (tVar m) (tVar iu)) (tVar iv) rSetL)) := by exact fun _ h1 h2 h3 h4 => ps_asg h1 (pg_sub (pe_ix ix_seq h2 h3 (fun _ _ => rfl)) h4 set_list)) :
    TyB X Ga (.Assign [.Name x px] (.ListComp elt [⟨.Name y py, iter, [], 0⟩] scope pos) spos :: .Assign [.Subscript (.Subscript (.Name x pz) (.Name u pu) sp1) (.Name v pv) sp2] (.Name w pw) pos2 :: rest) n R O :=
  b_copyset0 m k iu iv iw hK nd calm hi he hz hO hd hc hvx hvu hvv hvw hu hv hw hmu hml hr (fun l => ps_set (nd l) (hy l) (hxc l) (mk_lc calm nd ok hs l) (hsw l) (hfc l)) hN hx hf mk2
/-- what lists of good items have in common -/
abbrev MlC (Px : α → Pd) (C : α → Prop) (N : Nat) : Mo := SomeM (fun l : List α => l.length = N ∧ ∀ o ∈ l, C o) fun l => Ml (l.map Px)
/-- x[ie] = e at some place, some value -/
theorem b_setU {Px : α → Pd} {C : α → Prop} {N i : Nat} {Gi : List Sl} {M : Mo} {ie : Expr} {subpos : Pos} (hv : ∀ j, PE (X j) (.Name x p) (tVar i)) (ha : TyE X Ga e (Some' C Px) Gb) (h0 : ∃ s', Gb[i]? = some s' ∧ MuOwn M M s' s') (hix : TyE X Gb ie (Some' (fun k : Nat => k < N) fun k => IsI (k : Nat)) Gi) (hi : Gi[i]? = some (.mu (MlC Px C N))) (hr : TyB X (Gi.set i (.mu (MlC Px C N))) rest n R O)
    (mk : ∀ (l : ι) (te to ti : TE), PE (X l) e te → PE (X l) (.Name x p) to → PE (X l) ie ti → PS (X l) (.Assign [.Subscript (.Name x p) ie subpos] e pos) (tAsg te (gSub to ti rSetL)) := by exact fun _ _ _ _ h1 h2 h3 => ps_asg h1 (pg_sub h2 h3 set_list)) :
    TyB X Ga (.Assign [.Subscript (.Name x p) ie subpos] e pos :: rest) n R O :=
  b_cons (fun b σ G H D f kn kr => by
    refine ⟨tAsg (uE X e) (gSub (tVar i) (uE X ie) rSetL), fun l => mk l _ _ _ (uE_pe l) (hv l) (uE_pe l), ha b.q (Fr b) σ G H f.si _ fun v G1 H1 t1 I1 p1 => ?_⟩
    have f1 := f.next t1 I1
    obtain ⟨s', hs', hm'⟩ := h0
    obtain ⟨a, o, ea, _⟩ := I1.getA hm' hs'
    refine ⟨.ref a, ea, hix b.q (Fr b) σ G1 H1 I1 _ fun w G2 H2 t2 I2 p2 => ?_⟩
    have f2 := f1.next t2 I2
    obtain ⟨a', o', ea', nq, hF, g2, h2, m2⟩ := I2.getM hi
    rw [ea] at ea'; cases ea'
    obtain ⟨l, ⟨hl, hC⟩, xs, rfl, q2⟩ := m2
    obtain ⟨k, hk, pk⟩ := p2
    obtain ⟨y, hy, py⟩ := p1
    have lx : xs.length = N := by rw [q2.length, List.length_map, hl]
    refine ⟨a, xs, k, k, rfl, pk, h2, ?_, kn σ G2 _ (Ex.trans t1.k t2.k) (f2.chg .mu hi ea ⟨l.set k y, ⟨by rw [List.length_set]; exact hl, fun o ho => ?_⟩, _, rfl, ?_⟩)⟩
    · unfold ixN
      rw [if_pos (by omega), if_pos (by rw [lx]; omega), Int.toNat_natCast]
    · rcases List.mem_or_eq_of_mem_set ho with h | h
      · exact hC o h
      · rw [h]; exact hy
    · rw [List.map_set]
      exact AllP.set ((Px y).mono t2.k py) k q2) hr
end
end Ty
end
section
/-! Defs that hand on a new object. -/
namespace Ty
open PySem PySem.Spec PyProof.Rows L2
open Evl (Ex)
/-- a new object that may change is handed on -/
def SpN {D : Type} (A : D → List Pd) (S : D → Prop) (M : D → Mo) : Sp := fun vs H Q _ => ∃ (d : D) (G : Hp), S d ∧ Ex G H ∧ AllP (A d) vs G ∧ ∀ p o G' H', Step none G H G' H' → H p = none → G' p = none → H' p = some o → (M d).m o G' → Q (.ref p) H'
section
variable {P : Program} {w : World} {K : PySem.W.Frag} {mg : Str → Option Value} {base : Heap} {x qual : Str} {params : Arguments} {scope : Scope} {dvs : List V} {kws : List (Str × V)} {f : Addr} {fd : FuncData} {N ps : List Str} {k : Nat} {D : Type} {A : D → List Pd} {S : D → Prop} {M : D → Mo} {e : Expr} {pos : Pos}
theorem fn_n (F : FunD K x qual params [.Return (some e) pos] scope dvs kws f fd) (Sc : FnScope N ps scope) (hl : ∀ d, (A d).length = ps.length) (hb : ∀ d, S d → ∀ (f : Addr) (cdv : Value) (Ar : Around) (outer : List Env) (s : Shared) (H : Hp) (E : XK), Fam (bodyX P w K mg base N qual scope f cdv Ar outer s H E) P w K mg base k → ∃ Gb, TyN (uE (bodyX P w K mg base N qual scope f cdv Ar outer s H E) e) (padG N ((A d).map .is)) (M d) Gb) : FnOk P w K mg base CX0 (k + 1) f fd ps (SpN A S M) := by
  refine F.ok Sc (fun vs H Q E ⟨d, G, _, _, h, _⟩ => by rw [h.length]; exact hl d) fun cdv Ar outer s H vs Q E hr ⟨d, G, hs, ex, hp, kk⟩ => ?_
  obtain ⟨Gb, hB⟩ := hb d hs f cdv Ar outer s H E (fam_body hr)
  refine ⟨tRet (uE (bodyX P w K mg base N qual scope f cdv Ar outer s H E) e), PSs.nox (pss_one (ps_ret (uE_pe (X := bodyX P w K mg base N qual scope f cdv Ar outer s H E) ()))), ?_⟩
  exact hB none (fun _ => True) (L2.start N vs) G H (start_si ex hp rfl) _ fun p o G' H' t I nq h0 hg ho m => kk p o G' H' t h0 hg ho m
end
section
variable {ι : Type} {X : ι → Cx} {Ga Gb : List Sl} {e : Expr} {es : List Expr} {pos p : Pos} {x : Str} {Pr : Program} {w : World} {K : PySem.W.Frag} {mg : Str → Option Value} {base : Heap} {j k : Nat} {D : Type} {A : D → List Pd} {S : D → Prop} {M : D → Mo}
theorem TyN.imp {te : TE} {M M' : Mo} (h : TyN te Ga M Gb) (hm : ∀ o G, M.m o G → M'.m o G) : TyN te Ga M' Gb := fun q F σ G H I Q k => h q F σ G H I Q fun p o G' H' t I nq h0 hg ho m => k p o G' H' t I nq h0 hg ho (hm o G' m)
theorem TyN.u {te : TE} {M : Mo} (h : TyN te Ga M Gb) (mk : ∀ i, PE (X i) e te) : TyN (uE X e) Ga M Gb := fun q F σ G H I Q k => ⟨te, mk, h q F σ G H I Q k⟩
/-- f(e, ..), a new object -/
theorem n_gf (fam : Fam X Pr w K mg base j) (F : Gf Pr w K mg base k x (SpN A S M)) (d : D) (hg : ∀ i, Gl (X i) x) (ha : TyA X Ga (e :: es) (A d) Gb) (hs : S d) (hk : k ≤ j := by decide) (hdb : (x == ("__debug__" : Str)) = false := by decide)
    (he : ∀ i, starEach (e :: es) (X i).env = (false, eval e (X i).env) :: starEach es (X i).env := by intro i; rfl) (hpl : ∀ i, (backTo pos (starEach es (X i).env)).any (·.1) = false := by intro i; rfl) :
    TyN (uE X (.Call (.Name x p) (e :: es) [] pos)) Ga (M d) Gb := fun q F' σ G H I Q kk => by
  refine ⟨_, fun i => pe_gf fam F hk i (hg i) (uA_pa i) hdb (he i) (hpl i), ha q F' σ G H I _ fun vs G1 H1 t1 I1 p1 => ⟨d, G1, hs, I1.sub, p1, fun p o G' H' t h0 hg ho m => ?_⟩⟩
  obtain ⟨I2, nq⟩ := (I1.apart h0)
  have h00 : H p = none := by
    cases e : H p with
    | none => rfl
    | some u => rw [t1.f p u nq e] at h0; cases h0
  exact kk p o G' H' (t1.trans t.any) (I2.pure t) nq h00 hg ho m
end
section
variable {ι : Type} {X : ι → Cx} {Ga Gb : List Sl} {e : Expr} {pos p apos cpos : Pos} {x : Str} {K : PySem.W.Frag} {n : Option (List Sl)} {R : Pd} {O : Option Mo} {rest : List Stmt} {α : Type}
/-- x.append(e), some value -/
theorem b_appU {Px : α → Pd} {C : α → Prop} {N i : Nat} {M : Mo} (hK : ∀ l, (X l).K = K) (hv : ∀ j, PE (X j) (.Name x p) (tVar i)) (h0 : Ga[i]? = some (.mu M)) (hl0 : ∀ o G, M.m o G → ∃ xs, o = .lst xs) (ha : TyE X Ga e (Some' C Px) Gb) (hi : Gb[i]? = some (.mu (MlC Px C N))) (hz : N < sizeLine) (hr : TyB X (Gb.set i (.mu (MlC Px C (N + 1)))) rest n R O)
    (hst : ∀ l, starEach [e] (X l).env = (false, eval e (X l).env) :: starEach [] (X l).env := by intro i; rfl)
    (mk : ∀ (l : ι) (to : TE) (ta : TA), PE (X l) (.Name x p) to → PA (X l) [e] ta → PS (X l) (.Expr (.Call (.Attribute (.Name x p) "append" apos) [e] [] cpos) pos) (tDrop (tBM (X l).K "list" rAppend to ta)) := by exact fun _ _ _ ho ha => ps_expr (pe_bm PySem.F.plainAttrs_list PySem.F.slot_list_append PySem.F.type_list_append mt_append ho ha)) :
    TyB X Ga (.Expr (.Call (.Attribute (.Name x p) "append" apos) [e] [] cpos) pos :: rest) n R O :=
  b_cons (fun b σ G H D f kn kr => by
    refine ⟨tDrop (tBM K "list" rAppend (tVar i) (tCons (uE X e) tNil)), fun l => by rw [← hK l]; exact mk l _ _ (hv l) (pa_cons (uE_pe l) pa_nil (hst l)), ?_⟩
    obtain ⟨a, o, ea, g0, _, _, h0', m0⟩ := f.si.getM h0
    obtain ⟨xs0, rfl⟩ := hl0 _ _ m0
    refine ⟨.ref a, ea, .inl ⟨rfl, xs0, SqL.of h0'⟩, ha b.q (Fr b) σ G H f.si _ fun v G1 H1 t1 I1 p1 => ?_⟩
    have f1 := f.next t1 I1
    obtain ⟨a', o', ea', g1, _, _, h1, m1⟩ := I1.getM hi
    rw [ea] at ea'; cases ea'
    obtain ⟨l, ⟨hl, hC⟩, xs, rfl, q1⟩ := m1
    obtain ⟨y, hy, py⟩ := p1
    refine ⟨a, xs, v, rfl, rfl, h1, by rw [q1.length, List.length_map, hl]; exact hz, kn σ G1 _ t1.k (f1.chg .mu hi ea ⟨l ++ [y], ⟨by rw [List.length_append, hl]; rfl, fun o ho => ?_⟩, _, rfl, ?_⟩)⟩
    · rcases List.mem_append.mp ho with h | h
      · exact hC o h
      · rw [List.mem_singleton.mp h]; exact hy
    · rw [List.map_append]
      exact q1.append ⟨py, trivial⟩) hr
theorem mlC_list {Px : α → Pd} {C : α → Prop} {N : Nat} : ∀ o G, (MlC Px C N).m o G → ∃ xs, o = .lst xs := fun o G ⟨_, _, xs, e, _⟩ => ⟨xs, e⟩
theorem mlC_mono {Px : α → Pd} {C C' : α → Prop} {N : Nat} (h : ∀ x, C x → C' x) : ∀ o G, (MlC Px C N).m o G → (MlC Px C' N).m o G := fun o G ⟨l, ⟨h1, h2⟩, m⟩ => ⟨l, ⟨h1, fun x hx => h x (h2 x hx)⟩, m⟩
theorem mlC_nil {Px : α → Pd} {C : α → Prop} : ∀ o G, (Ml []).m o G → (MlC Px C 0).m o G := fun o G m => ⟨[], ⟨rfl, fun x hx => by cases hx⟩, m⟩
theorem mlC_known {Px : α → Pd} {C : α → Prop} {N : Nat} : ∀ p o G, G p = none → (MlC Px C N).m o G → (Some' (fun l : List α => l.length = N ∧ ∀ x ∈ l, C x) fun l => Ls (l.map Px)).p (.ref p) (upd G p o) := fun p o G hg ⟨l, hl, m⟩ => ⟨l, hl, Ml.known p o G hg m⟩
/-- for over data, what is kept known by the turn alone -/
theorem b_forN {ks : List Nat} {tg iter : Expr} {body : List Stmt} {ds : List α} {it : α → Pd} {Inv : Nat → List Sl} {Bd : Nat → α → List Sl} (nox : ∀ i, (X i).xe = fun _ _ => False) (calm : ∀ i, (X i).calm = true) (hi : TyI X Ga tg iter (ds.map it) (Inv 0)) (hg : ∀ k d, ds[k]? = some d → TyG X (Inv k) (it d) tg ks (Bd k d))
    (hb : ∀ k d, ds[k]? = some d → TyB X (Bd k d) body (some (Inv (k + 1))) R O) (hr : TyB X (Inv ds.length) rest n R O) (hs : ∀ i x, foldedSetIterable iter (X i).env x = pure x := by intro _ _; rfl) : TyB X Ga (.For tg iter body [] pos :: rest) n R O := by
  cases ds with
  | nil => exact b_for (ks := ks) (its := []) (Inv := Inv) (Bd := fun _ => []) nox calm hi (fun k P h => by simp at h) (fun k h => by simp at h) hr hs
  | cons d0 r =>
    generalize hds : d0 :: r = ds at *
    have gd : ∀ k, k < ds.length → ds[k]? = some (ds.getD k d0) := fun k hk => by
      have e : ds[k]? = some ds[k] := List.getElem?_eq_getElem hk
      simp [List.getD, e]
    refine b_for (ks := ks) (its := ds.map it) (Inv := Inv) (Bd := fun k => Bd k (ds.getD k d0)) nox calm hi (fun k P h => ?_) (fun k h => hb k _ (gd k (by rwa [List.length_map] at h))) (by rw [List.length_map]; exact hr) hs
    have hk : k < ds.length := by
      have := (List.getElem?_eq_some_iff.mp h).1
      rwa [List.length_map] at this
    rw [List.getElem?_map, gd k hk] at h
    cases h
    exact hg k _ (gd k hk)
/-- x[ie] = e at a known place, some value -/
theorem b_setIM {Px : α → Pd} {C : α → Prop} {N i k : Nat} {l : List α} {Gi : List Sl} {M : Mo} {ie : Expr} {subpos : Pos} (hv : ∀ j, PE (X j) (.Name x p) (tVar i)) (ha : TyE X Ga e (Some' C Px) Gb) (h0 : ∃ s', Gb[i]? = some s' ∧ MuOwn M M s' s') (hix : TyE X Gb ie (IsI (k : Nat)) Gi) (hi : Gi[i]? = some (.mu (Ml (l.map Px)))) (hN : N = N) (hl : l.length = N) (hC : ∀ o ∈ l, C o) (hk : k < N) (hr : TyB X (Gi.set i (.mu (MlC Px C N))) rest n R O)
    (mk : ∀ (l : ι) (te to ti : TE), PE (X l) e te → PE (X l) (.Name x p) to → PE (X l) ie ti → PS (X l) (.Assign [.Subscript (.Name x p) ie subpos] e pos) (tAsg te (gSub to ti rSetL)) := by exact fun _ _ _ _ h1 h2 h3 => ps_asg h1 (pg_sub h2 h3 set_list)) :
    TyB X Ga (.Assign [.Subscript (.Name x p) ie subpos] e pos :: rest) n R O :=
  b_cons (fun b σ G H D f kn kr => by
    refine ⟨tAsg (uE X e) (gSub (tVar i) (uE X ie) rSetL), fun l => mk l _ _ _ (uE_pe l) (hv l) (uE_pe l), ha b.q (Fr b) σ G H f.si _ fun v G1 H1 t1 I1 p1 => ?_⟩
    have f1 := f.next t1 I1
    obtain ⟨s', hs', hm'⟩ := h0
    obtain ⟨a, o, ea, _⟩ := I1.getA hm' hs'
    refine ⟨.ref a, ea, hix b.q (Fr b) σ G1 H1 I1 _ fun w G2 H2 t2 I2 p2 => ?_⟩
    have f2 := f1.next t2 I2
    obtain ⟨a', o', ea', nq, hF, g2, h2, m2⟩ := I2.getM hi
    rw [ea] at ea'; cases ea'
    obtain ⟨xs, rfl, q2⟩ := m2
    obtain ⟨y, hy, py⟩ := p1
    have lx : xs.length = N := by rw [q2.length, List.length_map, hl]
    refine ⟨a, xs, k, k, rfl, p2, h2, ?_, kn σ G2 _ (Ex.trans t1.k t2.k) (f2.chg .mu hi ea ⟨l.set k y, ⟨by rw [List.length_set]; exact hl, fun o ho => ?_⟩, _, rfl, ?_⟩)⟩
    · unfold ixN
      rw [if_pos (by omega), if_pos (by rw [lx]; omega), Int.toNat_natCast]
    · rcases List.mem_or_eq_of_mem_set ho with h | h
      · exact hC o h
      · rw [h]; exact hy
    · rw [List.map_set]
      exact AllP.set ((Px y).mono t2.k py) k q2) hr
/-- len(x), x may change -/
theorem e_lenMu {M : Mo} {i N : Nat} (hm : ∀ i, (X i).mg "len" = none) (hK : ∀ l, (X l).K = K) (hv : ∀ j, PE (X j) (.Name x p) (tVar i)) (hi : Ga[i]? = some (.mu M)) (hl : ∀ o G, M.m o G → ∃ xs, o = .lst xs ∧ xs.length = N) (hg : ∀ i, Gl (X i) "len" := by intro i; rfl) (hs : ∀ i, starEach [.Name x p] (X i).env = (false, eval (.Name x p) (X i).env) :: starEach [] (X i).env := by intro i; rfl) (hpl : ∀ i, (backTo pos (starEach [] (X i).env)).any (·.1) = false := by intro i; rfl) :
    TyE X Ga (.Call (.Name "len" cpos) [.Name x p] [] pos) (IsI (N : Nat)) Ga := fun q F σ G H I Q kk => by
  refine ⟨tCB (fun xs H Q => ∃ p ys, xs = [.ref p] ∧ (SqL K H p ys ∨ SqT K H p ys) ∧ Q (.int ys.length) H) (tCons (tVar i) tNil), fun l => by rw [← hK l]; exact pe_callB call_len_seq (hg l) (hm l) bo_len (pa_cons (hv l) pa_nil (hs l)) (by decide) (by decide) (hs l) (hpl l), ?_⟩
  obtain ⟨a, o, ea, _, _, _, h, m⟩ := I.getM hi
  obtain ⟨xs, rfl, q2⟩ := hl _ _ m
  exact ⟨.ref a, ea, a, xs, rfl, .inl (SqL.of h), by rw [q2]; exact kk _ G H (Step.refl I.sub) I rfl⟩
end
end Ty
end
section
/-! Worths' +, with_worth; Rule's with_outcome. -/
namespace Ty
open PySem PySem.Spec PyProof.Rows L2
/-- x = [elt for y, z in iter]: nothing is changed -/
theorem b_lcP {ι : Type} {X : ι → Cx} {Ga Gb : List Sl} {n : Option (List Sl)} {R : Pd} {O : Option Mo} {rest : List Stmt} {K : PySem.W.Frag} {α : Type} {ds : List α} {elt iter : Expr} {scope : Scope} {u x y : Str} {pu px py pos spos tpos : Pos} {kk : Nat} {P1 P2 f : α → Pd} (m k l : Nat) (hkl : k ≠ l) (hK : ∀ i, (X i).K = K) (nd : ∀ i, (X i).N.Nodup) (calm : ∀ i, (X i).calm = true) (hi : TyI X Ga (.Tuple [.Name x px, .Name y py] kk tpos) iter (ds.map fun d => Tp [P1 d, P2 d]) Gb)
    (he : ∀ d ∈ ds, TyE (blkX X scope) (((wipeG Gb [k, l]).set k (.is (P1 d))).set l (.is (P2 d))) elt (f d) (((wipeG Gb [k, l]).set k (.is (P1 d))).set l (.is (P2 d)))) (hz : ds.length ≤ sizeLine) (hO : ∀ i M, Gb[i]? = some (Sl.own M) → i ≠ k ∧ i ≠ l) (hr : TyB X (Gb.set m (.is (Ls (ds.map f)))) rest n R O)
    (hg : ∀ d, TyG (blkX X scope) (wipeG Gb [k, l]) (Tp [P1 d, P2 d]) (.Tuple [.Name x px, .Name y py] kk tpos) [k, l] (((wipeG Gb [k, l]).set k (.is (P1 d))).set l (.is (P2 d)))) (ok : ∀ i, BlkOk (X i).N (X i).env.scope scope [(x, k), (y, l)] := by intro i; exact blkOk_by rfl) (hs : ∀ i x, foldedSetIterable iter (X i).env x = pure x := by intro _ _; rfl)
    (hy : ∀ i, (X i).N[m]? = some u := by intro i; rfl) (hyl : ∀ i, (X i).env.scope.names.lookup u = some .local := by intro i; rfl) (hsw : ∀ i, swapsWith (.ListComp elt [⟨.Tuple [.Name x px, .Name y py] kk tpos, iter, [], 0⟩] scope pos) (some (.Name u pu)) spos.line (X i).env = pure true := by intro i; exact sw_true rfl rfl rfl rfl) :
    TyB X Ga (.Assign [.Name u pu] (.ListComp elt [⟨.Tuple [.Name x px, .Name y py] kk tpos, iter, [], 0⟩] scope pos) spos :: rest) n R O := by
  have e1 : ∀ s t : Sl, wipeG (((wipeG Gb [k, l]).set k s).set l t) [k, l] = wipeG Gb [k, l] := fun s t => by
    show (((((Gb.set l .any).set k .any).set k s).set l t).set l .any).set k .any = (Gb.set l .any).set k .any
    rw [List.set_set, List.set_set, List.set_comm .any s (Ne.symm hkl), List.set_set, List.set_comm s .any hkl, List.set_set]
  exact b_setR (mk_sl calm nd hy hyl hsw ok hs) ((lc_map (vs := [k, l]) (ks := [k, l]) (it := fun d => Tp [P1 d, P2 d]) hi hz (fun i M h => by
    have := hO i M h
    simp [this.1, this.2]) (fun _ h => h) (fun d _ => hg d) he (fun d _ => by rw [e1]; exact GaLe.refl _) (fun d _ => by rw [e1]; exact GaLe.refl _)).known Ml.known) hr
end Ty
namespace Tf
open PySem PySem.Spec PyProof.Rows L2 Ty TL
def addR (a b : List Int) : List Int := (a.zip b).map fun z => z.1 + z.2
def addW (a b : List (List Int)) : List (List Int) := (a.zip b).map fun z => addR z.1 z.2
def setW (t : List (List Int)) (k o : Nat) (x : Int) : List (List Int) := t.set k ((t.getD k []).set o x)
theorem depth_tdat (l : List Int) : (tdat l).depth ≤ 64 := by
  unfold tdat PyData.depth
  have := depth_all (g := PyData.int) (k := 0) (fun a => by simp [PyData.depth]) l
  omega
theorem ldat_self (l : List Int) : PyData.eqv (tdat l) (tdat l) = true := (eqv_tp eqv_int l l).mpr rfl
section
variable {P : Program} {w : World} {K : PySem.W.Frag} {mg : Str → Option Value} {base : Heap} {f : Addr} {fd : FuncData} {cR cF cW cU cY : Addr}
abbrev NWA : List Str := ["self", "other", "sizes", "others", "rows", "one", "two", "a", "b"]
theorem scWA : FnScope NWA ["self", "other"] (defScope (inClass (top 53) 5)) := ⟨rfl, rfl, rfl, by decide +kernel, rfl, by decide +kernel, by decide +kernel⟩
structure sWA (d : List (List Int) × List (List Int)) : Prop where
  a : Rc d.1
  b : Rc d.2
  k : d.1.length = d.2.length
  o : (d.1.headD []).length = (d.2.headD []).length
theorem sWA.rc {d : List (List Int) × List (List Int)} (h : sWA d) : Rc (addW d.1 d.2) := by
  have hl : (addW d.1 d.2).length = d.1.length := by unfold addW; rw [List.length_map, List.length_zip, ← h.k, Nat.min_self]
  have hr : ∀ r ∈ addW d.1 d.2, r.length = (d.1.headD []).length := fun r hr => by
    unfold addW at hr
    obtain ⟨z, hz, rfl⟩ := List.mem_map.mp hr
    have h1 := h.a.eq z.1 (List.of_mem_zip hz).1
    have h2 := h.b.eq z.2 (List.of_mem_zip hz).2
    unfold addR
    rw [List.length_map, List.length_zip, h1, h2, ← h.o, Nat.min_self]
  have hh : ((addW d.1 d.2).headD []).length = (d.1.headD []).length := by
    cases e : addW d.1 d.2 with
    | nil => rw [e] at hl; have := h.a.n1; simp at hl; omega
    | cons a r => exact hr a (by rw [e]; exact List.mem_cons_self)
  exact ⟨by rw [hl]; exact h.a.n1, by rw [hl]; exact h.a.n6, fun r hr' => by rw [hh]; exact hr r hr', by rw [hh]; exact h.a.m1, by rw [hh]; exact h.a.m6⟩
abbrev spWA (cW : Addr) : Sp := SpD (fun d : List (List Int) × List (List Int) => [Wo cW d.1, Wo cW d.2]) sWA (fun d => Wo cW (addW d.1 d.2))
theorem body_wa (b : Fb mg) (r : WoF mg K cW) (m : Mkf P w K mg base 1 cW (spWI cW)) (d : List (List Int) × List (List Int)) (h : sWA d) : BodyOk P w K mg base NWA "Worths.__add__" (defScope (inClass (top 53) 5)) (defBody (inClass (top 53) 5)) 2 (padG NWA ([Wo cW d.1, Wo cW d.2].map .is)) (Wo cW (addW d.1 d.2)) none := by
  intro f cdv Ar outer s H E fam
  have nd := scWA.nd
  have a6 := h.a.n6
  have m6 := h.a.m6
  refine ⟨none, ?_, fun _ h => nomatch h⟩
  refine b_par (P1 := prP (d.1.length, (d.1.headD []).length)) (P2 := prP (d.2.length, (d.2.headD []).length)) (fun l => ps_par (i := 2) (j := 3) rfl nd rfl rfl (by decide) rfl rfl (uA_pa l) (by rfl)) (a_2 (e_tup (a_2 (e_kinds r (fun _ => rfl) (vr 0)) (e_wouts r (fun _ => rfl) (vr 0))) len2) (e_tup (a_2 (e_kinds r (fun _ => rfl) (vr 1)) (e_wouts r (fun _ => rfl) (vr 1))) len2)) ?_
  refine b_guard (t_neD (d := tdat [(d.1.length : Int), ((d.1.headD []).length : Int)]) (e := tdat [(d.2.length : Int), ((d.2.headD []).length : Int)]) (b := true) fam (vr 2) (vr 3) (dq_tp (f := IsI) (g := .int) (fun _ => dq_int) _) (dq_tp (f := IsI) (g := .int) (fun _ => dq_int) _) (depth_tdat _) (depth_tdat _) (by rw [h.k, h.o]; exact ldat_self _)) rfl ?_
  refine b_lcP (ds := d.1.zip d.2) (P1 := fun z => rowP z.1) (P2 := fun z => rowP z.2) (f := fun z => rowP (addR z.1 z.2)) 4 5 6 (by decide) (fun _ => rfl) (fun _ => nd) (fun _ => rfl) (i_zip (fun _ => rfl) (fun _ => b.zip) (a_2 (e_cells r (fun _ => rfl) (vr 0)) (e_cells r (fun _ => rfl) (vr 1)))) (fun z hz => ?_) (by rw [List.length_zip, sizeLine_eq]; omega) (fun i M h => ?_) ?_ (fun _ => g_pr 5 6 (fun _ => rfl) (fun _ => rfl) (fun _ => nd))
  · have h1 := h.a.eq z.1 (List.of_mem_zip hz).1
    refine TyE.eq (e_lcP (ds := z.1.zip z.2) (P1 := fun y => IsI y.1) (P2 := fun y => IsI y.2) (f := fun y => IsI (y.1 + y.2)) 7 8 (by decide) (fun _ => rfl) (fun _ => nd) (fun _ => rfl) (i_zip (f := IsI) (g := IsI) (fun _ => rfl) (fun _ => b.zip) (a_2 (vr 5) (vr 6))) (fun y _ => e_add (vr 7) (vr 8)) (by rw [List.length_zip, sizeLine_eq]; omega) (fun i M h => ?_) (fun _ => g_pr 7 8 (fun _ => rfl) (fun _ => rfl) (fun _ => nd))) (by unfold rowP addR; rw [List.map_map]; rfl)
    exact ⟨fun z => (by subst z; cases h), fun z => (by subst z; cases h)⟩
  · exact ⟨fun z => (by subst z; cases h), fun z => (by subst z; cases h)⟩
  · exact b_ret (e_mkS fam m (addW d.1 d.2) (fun _ => rfl) r.glo (TyE.conv (vr 4) fun v G hp => Ls.sq (by unfold addW; rw [List.map_map]; exact hp)) h.rc) OwnAt.none
abbrev NWW : List Str := ["self", "kind", "outcome", "worth", "rows", "row"]
theorem scWW : FnScope NWW ["self", "kind", "outcome", "worth"] (defScope (inClass (top 53) 7)) := ⟨rfl, rfl, rfl, by decide +kernel, rfl, by decide +kernel, by decide +kernel⟩
structure dWW where
  t : List (List Int)
  k : Nat
  o : Nat
  x : Int
structure sWW (d : dWW) : Prop where
  rc : Rc d.t
  k : d.k < d.t.length
  o : d.o < (d.t.headD []).length
theorem setW_rc {t : List (List Int)} {k o : Nat} {x : Int} (h : Rc t) (hk : k < t.length) : Rc (setW t k o x) ∧ ((setW t k o x).headD []).length = (t.headD []).length := by
  have hr : ∀ r ∈ setW t k o x, r.length = (t.headD []).length := fun r hr => by
    rcases List.mem_or_eq_of_mem_set hr with h' | h'
    · exact h.eq r h'
    · rw [h', List.length_set]; exact h.row hk
  have hl : (setW t k o x).length = t.length := List.length_set
  have hh : ((setW t k o x).headD []).length = (t.headD []).length := by
    cases e : setW t k o x with
    | nil => rw [e] at hl; have := h.n1; simp at hl; omega
    | cons a r => exact hr a (by rw [e]; exact List.mem_cons_self)
  exact ⟨⟨by rw [hl]; exact h.n1, by rw [hl]; exact h.n6, fun r hr' => by rw [hh]; exact hr r hr', by rw [hh]; exact h.m1, by rw [hh]; exact h.m6⟩, hh⟩
abbrev spWW (cW : Addr) : Sp := SpD (fun d : dWW => [Wo cW d.t, ni d.k, ni d.o, IsI d.x]) sWW (fun d => Wo cW (setW d.t d.k d.o d.x))
theorem body_ww (b : Fb mg) (r : WoF mg K cW) (m : Mkf P w K mg base 1 cW (spWI cW)) (rw_ : Mf P w K mg base 1 cW "row" (spWR cW)) (d : dWW) (h : sWW d) : BodyOk P w K mg base NWW "Worths.with_worth" (defScope (inClass (top 53) 7)) (defBody (inClass (top 53) 7)) 2 (padG NWW ([Wo cW d.t, ni d.k, ni d.o, IsI d.x].map .is)) (Wo cW (setW d.t d.k d.o d.x)) none := by
  intro f cdv Ar outer s H E fam
  have nd := scWW.nd
  have n6 := h.rc.n6
  refine ⟨none, ?_, fun _ h => nomatch h⟩
  refine b_expr (e_meth fam rw_ (d.t, d.k) (vr 0) (a_1 (vr 1)) rfl h.k rfl) ?_
  refine b_guard (t_not (t_leLt e_int (vr 2) (e_wouts r (fun _ => rfl) (vr 0)))) (nlt (by omega) (by have := h.o; omega)) ?_
  have hg : d.t[d.k]? = some (d.t.getD d.k []) := by rw [List.getD_eq_getElem?_getD, List.getElem?_eq_getElem h.k]; rfl
  refine b_copyset (ds := d.t) (it := rowP) (Ps := fun r => r.map IsI) (r := d.k) (c := d.o) (d0 := d.t.getD d.k []) 4 5 1 2 3 (fun _ => rfl) (fun _ => nd) (fun _ => rfl) (i_list (fun _ => rfl) (e_cells r (fun _ => rfl) (vr 0))) (fun x hx => n_listSq (fun _ => b.list) (fun _ => rfl) (vr 5) fun _ _ h => Ls.sq h) (by rw [sizeLine_eq]; omega) (fun i M h z => by subst z; cases h) hg (by rw [List.length_map, h.rc.row h.k]; exact h.o) (fun _ => pv 4) (fun _ => pv 1) (fun _ => pv 2) (fun _ => pv 3) rfl rfl rfl ⟨by decide, by decide, by decide⟩ (of_decide_eq_true rfl) ?_
  refine b_ret (e_mkS fam m (setW d.t d.k d.o d.x) (fun _ => rfl) r.glo (TyE.conv (vr 4) fun v G hp => Ls.sq ?_) (setW_rc h.rc h.k).1) OwnAt.none
  unfold setW
  rw [List.map_set]
  unfold rowP
  rw [List.map_set]
  exact hp
abbrev NUW : List Str := ["self", "kind", "outcome", "found"]
theorem scUW : FnScope NUW ["self", "kind", "outcome"] (defScope (inClass (top 54) 7)) := ⟨rfl, rfl, rfl, by decide +kernel, rfl, by decide +kernel, by decide +kernel⟩
abbrev sUW (d : List Nat × Nat × Nat) : Prop := sRI d.1 ∧ d.2.1 < d.1.length ∧ d.2.2 < 6
abbrev spUW (cU : Addr) : Sp := SpD (fun d : List Nat × Nat × Nat => [Ru cU d.1, ni d.2.1, ni d.2.2]) sUW (fun d => Ru cU (d.1.set d.2.1 d.2.2))
theorem body_uw (b : Fb mg) (r : RuF mg K cU) (m : Mkf P w K mg base 1 cU (spRI cU)) (d : List Nat × Nat × Nat) (h : sUW d) : BodyOk P w K mg base NUW "Rule.with_outcome" (defScope (inClass (top 54) 7)) (defBody (inClass (top 54) 7)) 2 (padG NUW ([Ru cU d.1, ni d.2.1, ni d.2.2].map .is)) (Ru cU (d.1.set d.2.1 d.2.2)) none := by
  intro f cdv Ar outer s H E fam
  have nd := scUW.nd
  refine ⟨none, ?_, fun _ h => nomatch h⟩
  refine b_guard (t_not (t_leLt e_int (vr 1) (e_lenT (fun _ => b.len) (fun _ => rfl) (e_outs r (fun _ => rfl) (vr 0))))) (nlt (by omega) (by have := h.2.1; rw [List.length_map]; omega)) ?_
  refine b_stM 3 (fun _ => nd) (M := Ml (d.1.map ni)) (fun i => uE_pe i) (n_listSq (fun _ => b.list) (fun _ => rfl) (e_outs r (fun _ => rfl) (vr 0)) fun _ _ h => Tp.sq h) ?_
  refine b_setI (i := 3) (jx := d.2.1) (fun _ => pv 3) (vr 2) ⟨_, rfl, .mu (M := Ml (d.1.map ni)) (M' := Ml (d.1.map ni))⟩ (vr 1) rfl .mu (ixN_nat (by rw [List.length_map]; exact h.2.1)) ?_
  refine b_freeze (k := 3) (P := Ls ((d.1.set d.2.1 d.2.2).map ni)) rfl (fun p o G hg m => Ml.known p o G hg (by rw [List.map_set]; exact m)) ?_
  refine b_ret (e_mkS fam m (d.1.set d.2.1 d.2.2) (fun _ => rfl) r.glo (TyE.conv (vr 3) fun _ _ h => Ls.sq h) ⟨by rw [List.length_set]; exact h.1.1, by rw [List.length_set]; exact h.1.2.1, fun o ho => ?_⟩) OwnAt.none
  rcases List.mem_or_eq_of_mem_set ho with h' | h'
  · exact h.1.2.2 o h'
  · rw [h']; exact h.2.2
end
end Tf
end
section
/-! The law's draws. -/
namespace Tf
open PySem PySem.Spec PyProof.Rows L2 Ty TL
/-- the pool: so many draws at most so far -/
abbrev poolM (c : Nat) : Mo := SomeM (fun t : Nat × Nat × Bool => t.2.1 ≤ c) fun t => Ml [ni t.1, ni t.2.1, IsB t.2.2]
theorem poolM_mono {c c' : Nat} (h : c ≤ c') : ∀ o G, (poolM c).m o G → (poolM c').m o G := fun o G ⟨t, ht, m⟩ => ⟨t, Nat.le_trans ht h, m⟩
abbrev drP (lim : Nat) : Pd := Some' (fun x : Nat => x < lim) ni
section
variable {P : Program} {w : World} {K : PySem.W.Frag} {mg : Str → Option Value} {base : Heap} {f : Addr} {fd : FuncData} {cR cF cW cU cY : Addr}
/-! ### _law_bag -/
theorem scBag : FnScope ["_law_cell"] ["_law_cell"] (defScope (top 56)) := ⟨rfl, rfl, rfl, by decide +kernel, rfl, by decide +kernel, by decide +kernel⟩
abbrev spBag : Sp := SpN (fun c : Int => [IsI c]) (fun _ => True) (fun _ => poolM 0)
theorem len3 {P1 P2 P3 : Pd} : [P1, P2, P3].length ≤ sizeLine := by rw [sizeLine_eq]; show 3 ≤ _; decide
theorem ok_bag (b : Fb mg) (F : FnP K "_law_bag" "_law_bag" (top 56) f fd) : FnOk P w K mg base CX0 1 f fd ["_law_cell"] spBag := by
  refine fn_n F scBag (fun _ => rfl) fun c _ f cdv Ar outer s H E fam => ⟨[.is (IsI c)], ?_⟩
  exact TyN.u (TyN.imp (n_lst (a_cons (e_abs (fun _ => b.abs) (vr 0)) (a_2 e_int (v_ge (e_abs (fun _ => b.abs) (vr 0)) (e_pow e_int e_int ⟨by decide, by decide, by decide⟩)))) len3) fun o G m => ⟨(c.natAbs, 0, decide ((10 : Int) ^ (18 : Int).toNat ≤ (c.natAbs : Nat))), Nat.le_refl _, m⟩) (fun i => pe_lst (uA_pa i))
/-! ### _law_draw -/
abbrev NDr : List Str := ["_law_pool", "_law_limit", "_law_digit", "_law_made"]
theorem scDr : FnScope NDr ["_law_pool", "_law_limit"] (defScope (top 57)) := ⟨rfl, rfl, rfl, by decide +kernel, rfl, by decide +kernel, by decide +kernel⟩
/-- draws so far, the limit -/
abbrev sDr (d : Nat × Nat) : Prop := d.1 ≤ 1000 ∧ 0 < d.2 ∧ d.2 < 2 ^ 100
abbrev spDr : Sp := SpO (fun d : Nat × Nat => [ni d.2]) sDr (fun d => drP d.2) (fun d => poolM d.1) (fun d => poolM (d.1 + 1))
theorem emod_nat {a : Int} {n : Nat} (h : 0 < n) : ∃ x : Nat, x < n ∧ a % (n : Int) = (x : Int) := by
  have h1 := Int.emod_nonneg a (b := (n : Int)) (by omega)
  have h2 := Int.emod_lt_of_pos a (b := (n : Int)) (by omega)
  exact ⟨(a % (n : Int)).toNat, by omega, by omega⟩
theorem mod_dr {a : Int} {n : Nat} (h : 0 < n) : ∀ v G, (IsI (a % (n : Int))).p v G → (drP n).p v G := fun v G p => by
  obtain ⟨x, hx, e⟩ := emod_nat (a := a) h
  exact ⟨x, hx, by rw [e] at p; exact p⟩
theorem body_dr (b : Fb mg) (d : Nat × Nat) (h : sDr d) : BodyOk P w K mg base NDr "_law_draw" (defScope (top 57)) (defBody (top 57)) 0 (padG NDr (.own (poolM d.1) :: [ni d.2].map .is)) (drP d.2) (some (poolM (d.1 + 1))) := by
  intro f cdv Ar outer s H E fam
  have nd := scDr.nd
  have hl : (0 : Int) < (d.2 : Nat) := by have := h.2.1; omega
  have hlw : CDivW 0 (d.2 : Nat) := ⟨hl, by rw [Int.natAbs_natCast]; exact Nat.lt_trans (log2_lt (k := 100) (by decide) h.2.2) (by decide)⟩
  refine ⟨none, ?_, fun _ h => nomatch h⟩
  refine b_openO (k := 0) rfl fun t ht => ?_
  obtain ⟨a, k, fl⟩ := t
  have ht : k ≤ d.1 := ht
  have hk : k + 1 ≤ 1001 := by have := h.1; omega
  refine b_setI (i := 0) (jx := 1) (P := ni (k + 1)) (fun _ => pv 0) (TyE.eq (e_add (e_ixM (fun _ => rfl) (fun _ => pv 0) ⟨_, rfl, .own (M := Ml [ni a, ni k, IsB fl]) (M' := Ml [ni a, ni k, IsB fl])⟩ e_int rfl .own (Ty.atI_nat (k := 1) rfl)) e_int) rfl) ⟨_, rfl, .own (M := Ml [ni a, ni k, IsB fl]) (M' := Ml [ni a, ni k, IsB fl])⟩ e_int rfl .own rfl ?_
  refine b_ifr (b := fl) (t_val (e_ixM (fun _ => rfl) (fun _ => pv 0) ⟨_, rfl, .own (M := Ml [ni a, ni (k + 1), IsB fl]) (M' := Ml [ni a, ni (k + 1), IsB fl])⟩ e_int rfl .own (Ty.atI_nat (k := 2) rfl))) (fun _ => ?_) (fun _ => ?_)
  · refine b_st 2 (fun _ => nd) (e_mod (e_intI (fun _ => b.int) (e_ixM (fun _ => rfl) (fun _ => pv 0) ⟨_, rfl, .own (M := Ml [ni a, ni (k + 1), IsB fl]) (M' := Ml [ni a, ni (k + 1), IsB fl])⟩ e_int rfl .own (Ty.atI_nat (k := 0) rfl))) (vr 1) hl) ?_
    refine b_setI (i := 0) (jx := 0) (P := ni (a / d.2)) (fun _ => pv 0) (TyE.eq (e_fdiv (e_intI (fun _ => b.int) (e_ixM (fun _ => rfl) (fun _ => pv 0) ⟨_, rfl, .own (M := Ml [ni a, ni (k + 1), IsB fl]) (M' := Ml [ni a, ni (k + 1), IsB fl])⟩ e_int rfl .own (Ty.atI_nat (k := 0) rfl))) (vr 1) hlw) (by show IsI ((a : Int) / (d.2 : Nat)) = IsI ((a / d.2 : Nat) : Int); rw [Int.natCast_ediv])) ⟨_, rfl, .own (M := Ml [ni a, ni (k + 1), IsB fl]) (M' := Ml [ni a, ni (k + 1), IsB fl])⟩ e_int rfl .own rfl ?_
    exact b_ret (TyE.conv (vr 2) (mod_dr h.2.1)) (OwnAt.imp 0 rfl fun o G m => ⟨(a / d.2, k + 1, fl), by show k + 1 ≤ d.1 + 1; omega, m⟩)
  · have b1 : (((a : Int) % 2147483647 * 48271 + ((k + 1 : Nat) : Int) * 69621 + 11)).natAbs < 2 ^ 64 := by
      have h1 := Int.emod_nonneg (a : Int) (b := 2147483647) (by decide)
      have h2 := Int.emod_lt_of_pos (a : Int) (b := 2147483647) (by decide)
      have h3 : ((k + 1 : Nat) : Int) * 69621 ≤ 1001 * 69621 := Int.mul_le_mul_of_nonneg_right (by omega) (by decide)
      have h4 : 0 ≤ ((k + 1 : Nat) : Int) * 69621 := Int.mul_nonneg (by omega) (by decide)
      omega
    generalize hm1 : (((a : Int) % 2147483647 * 48271 + ((k + 1 : Nat) : Int) * 69621 + 11)) = m1 at b1
    refine b_st 3 (fun _ => nd) (P := IsI (m1 ^ (5 : Int).toNat % 2147483647)) (e_mod (e_pow (e_intI (fun _ => b.int) (TyE.eq (e_add (e_add (e_mul (e_mod (e_intI (fun _ => b.int) (e_ixM (fun _ => rfl) (fun _ => pv 0) ⟨_, rfl, .own (M := Ml [ni a, ni (k + 1), IsB fl]) (M' := Ml [ni a, ni (k + 1), IsB fl])⟩ e_int rfl .own (Ty.atI_nat (k := 0) rfl))) e_int (by decide)) e_int ?_) (e_mul (e_ixM (fun _ => rfl) (fun _ => pv 0) ⟨_, rfl, .own (M := Ml [ni a, ni (k + 1), IsB fl]) (M' := Ml [ni a, ni (k + 1), IsB fl])⟩ e_int rfl .own (Ty.atI_nat (k := 1) rfl)) e_int ?_)) e_int) (by rw [hm1]))) e_int ⟨by decide, by decide, b1⟩) e_int (by decide)) ?_
    · have h1 := Int.emod_nonneg (a : Int) (b := 2147483647) (by decide)
      have h2 := Int.emod_lt_of_pos (a : Int) (b := 2147483647) (by decide)
      exact mulW (k := 32) (l := 32) (by omega) (by decide)
    · exact mulW (k := 32) (l := 32) (by omega) (by decide)
    generalize m1 ^ (5 : Int).toNat = m2
    have h1 := Int.emod_nonneg m2 (b := 2147483647) (by decide)
    have h2 := Int.emod_lt_of_pos m2 (b := 2147483647) (by decide)
    generalize m2 % 2147483647 = m3 at h1 h2
    have b2 : (m3 * 40692 + ((k + 1 : Nat) : Int) * 16811 + 7).natAbs < 2 ^ 64 := by
      have h3 : ((k + 1 : Nat) : Int) * 16811 ≤ 1001 * 16811 := Int.mul_le_mul_of_nonneg_right (by omega) (by decide)
      have h4 : 0 ≤ ((k + 1 : Nat) : Int) * 16811 := Int.mul_nonneg (by omega) (by decide)
      omega
    refine b_st 3 (fun _ => nd) (e_mod (e_pow (e_intI (fun _ => b.int) (e_add (e_add (e_mul (vr 3) e_int ?_) (e_mul (e_ixM (fun _ => rfl) (fun _ => pv 0) ⟨_, rfl, .own (M := Ml [ni a, ni (k + 1), IsB fl]) (M' := Ml [ni a, ni (k + 1), IsB fl])⟩ e_int rfl .own (Ty.atI_nat (k := 1) rfl)) e_int ?_)) e_int)) e_int ⟨by decide, by decide, b2⟩) e_int (by decide)) ?_
    · exact mulW (k := 32) (l := 32) (by omega) (by decide)
    · exact mulW (k := 32) (l := 32) (by omega) (by decide)
    refine b_ret (TyE.conv (e_mod (e_fdiv (vr 3) e_int ⟨by decide, by decide⟩) (vr 1) hl) (mod_dr h.2.1)) (OwnAt.imp 0 rfl fun o G m => ⟨(a, k + 1, fl), by show k + 1 ≤ d.1 + 1; omega, m⟩)
theorem gf_draw (b : Fb mg) (F : FnP K "_law_draw" "_law_draw" (top 57) f fd) (hm : mg "_law_draw" = some (.ref f)) : Gf P w K mg base 1 "_law_draw" spDr :=
  Gf.of (fn_o F scDr (fun _ => rfl) fun d hd => body_dr b d hd) (F.bindsN fun _ _ _ _ _ _ us hl => match us, hl with | [_, _], _ => rfl) hm F.kp
theorem sdr {c n : Nat} (h1 : c ≤ 1000) (h2 : 0 < n ∧ n < 2 ^ 100) : sDr (c, n) := ⟨h1, h2⟩
section
variable {ι : Type} {X : ι → Cx} {Ga Gb : List Sl} {e : Expr} {pos p py : Pos} {j c n : Nat}
/-- _law_draw(_law_pool, e), the pool in slot 0 -/
theorem e_draw (fam : Fam X P w K mg base j) (DR : Gf P w K mg base 1 "_law_draw" spDr) (c n : Nat) (h0 : ∃ M0, Ga[0]? = some (.own M0)) (ha : TyE X Ga e (ni n) Gb) (hi : Gb[0]? = some (.own (poolM c))) (h1 : c ≤ 1000) (h2 : 0 < n ∧ n < 2 ^ 100 := by decide) (hk : 1 ≤ j := by decide) (hg : ∀ i, Gl (X i) "_law_draw" := by intro i; rfl)
    (hv : ∀ j, PE (X j) (.Name "_law_pool" py) (tVar 0) := by intro j; exact pv 0)
    (hss : ∀ l, starEach [e] (X l).env = (false, eval e (X l).env) :: starEach [] (X l).env := by intro i; rfl)
    (he : ∀ l, starEach [.Name "_law_pool" py, e] (X l).env = (false, eval (.Name "_law_pool" py) (X l).env) :: starEach [e] (X l).env := by intro i; rfl) (hpl : ∀ i, (backTo pos (starEach [e] (X i).env)).any (·.1) = false := by intro i; rfl) :
    TyE X Ga (.Call (.Name "_law_draw" p) [.Name "_law_pool" py, e] [] pos) (drP n) (Gb.set 0 (.own (poolM (c + 1)))) := e_gfO fam DR (c, n) hg hv h0 (a_1 ha hss) hi (sdr h1 h2) hk (by decide) he hpl
end
theorem own0 {l : List Sl} (h : l.tail.all (fun s => match s with | .own _ => false | _ => true) = true) : ∀ i Mm, l[i]? = some (Sl.own Mm) → i = 0 := fun i Mm e => by
  cases i with
  | zero => rfl
  | succ i =>
    exfalso
    have e1 : l.tail[i]? = some (Sl.own Mm) := by rw [List.getElem?_tail]; exact e
    have := List.all_eq_true.mp h _ (List.mem_of_getElem? e1)
    exact nomatch this
end
end Tf
end
section
/-! A list that is only read: the law's script. -/
namespace Ty
open PySem PySem.Spec PyProof.Rows L2
open Evl (Ex)
theorem SqL.up {K : PySem.W.Frag} {G H : Hp} {a : Addr} {xs : List V} (e : Ex G H) (h : SqL K G a xs) : SqL K H a xs := by
  rcases h with (h | ⟨o, h⟩) | h
  · exact .inl (.inl (e _ _ h))
  · exact .inl (.inr ⟨o, e _ _ h⟩)
  · exact .inr h
@[irreducible] def LsK (K : PySem.W.Frag) (Ps : List Pd) : Pd := ⟨fun v G => ∃ a xs, v = .ref a ∧ SqL K G a xs ∧ AllP Ps xs G, fun e ⟨a, xs, h1, h2, h3⟩ => ⟨a, xs, h1, SqL.up e h2, h3.mono e⟩⟩
theorem LsK.out {K : PySem.W.Frag} {Ps : List Pd} {v : V} {G : Hp} (h : (LsK K Ps).p v G) : ∃ a xs, v = .ref a ∧ SqL K G a xs ∧ AllP Ps xs G := by
  unfold LsK at h
  exact h
theorem LsK.of {K : PySem.W.Frag} {Ps : List Pd} {a : Addr} {xs : List V} {G : Hp} (h : SqL K G a xs) (hp : AllP Ps xs G) : (LsK K Ps).p (.ref a) G := by
  unfold LsK
  exact ⟨a, xs, rfl, h, hp⟩
section
variable {ι : Type} {X : ι → Cx} {Ga Gb Gc Gd : List Sl} {e a c : Expr} {lo hi : Option Expr} {l h : Option Int} {Ps : List Pd} {P : Pd} {pos p p2 : Pos} {K : PySem.W.Frag} {i : Int}
theorem c_lenK : CaT (fun xs H Q => ∃ p ys, xs = [.ref p] ∧ (SqL K H p ys ∨ SqT K H p ys) ∧ Q (.int ys.length) H) [LsK K Ps] (IsI Ps.length) := fun xs G H Q e p k => by
  match xs, p with
  | [v], p =>
    obtain ⟨a, ys, rfl, hs, hp⟩ := LsK.out p.1
    refine ⟨a, ys, rfl, .inl (SqL.up e hs), ?_⟩
    rw [hp.length]
    exact k _ G H (Step.refl e) rfl
theorem e_lenK (hm : ∀ i, (X i).mg "len" = none) (hK : ∀ i, (X i).K = K) (ha : TyE X Ga e (LsK K Ps) Gb) (hg : ∀ i, Gl (X i) "len" := by intro i; rfl) (hs : ∀ i, starEach [e] (X i).env = (false, eval e (X i).env) :: starEach [] (X i).env := by intro i; rfl) (hpl : ∀ i, (backTo pos (starEach [] (X i).env)).any (·.1) = false := by intro i; rfl) :
    TyE X Ga (.Call (.Name "len" p) [e] [] pos) (IsI Ps.length) Gb := e_callB (fun i => by have z := call_len_seq (X := X i); rw [hK i] at z; exact z) hg hm bo_len (a_1 ha hs) c_lenK (by decide) (by decide) hs hpl
theorem o_ixK (hi : atI Ps i = some P) : OpT (rIx K) (LsK K Ps) (IsI i) P := fun x y G H Q e p1 p2 k => by
  obtain ⟨a, xs, rfl, hx, hp⟩ := LsK.out p1
  obtain ⟨v, hv, pv⟩ := hp.atI hi
  exact .inl ⟨a, xs, i, v, rfl, p2, SqL.up e hx, hv, k v G H (Step.refl e) pv⟩
theorem e_ixK (hK : ∀ l, (X l).K = K) (ha : TyE X Ga a (LsK K Ps) Gb) (hc : TyE X Gb c (IsI i) Gc) (hi : atI Ps i = some P) (hs : PlainIx c := by exact fun _ _ => rfl) : TyE X Ga (.Subscript a c pos) P Gc :=
  e_ix (r := rIx K) (fun l => by have z := ix_seq (X := X l); rw [hK l] at z; exact z) ha hc (o_ixK hi) hs
theorem e_slK (hK : ∀ l, (X l).K = K) (he : TyE X Ga e (LsK K Ps) Gb) (hl : TyO X Gb lo l Gc) (hh : TyO X Gc hi h Gd) : TyE X Ga (.Subscript e (.Slice lo hi none p2) pos) (Ls (cutL Ps l h)) Gd := fun q F σ G H I Q k => by
  refine ⟨tSl (rSlL K) (uE X e) (uO X lo) (uO X hi), fun l => by rw [← hK l]; exact pe_slice sl_list (uE_pe l) (uO_po l) (uO_po l), he q F σ G H I _ fun v G1 H1 t1 I1 p1 => hl q F σ G1 H1 I1 _ fun G2 H2 t2 I2 => hh q F σ G2 H2 I2 _ fun G3 H3 t3 I3 => ?_⟩
  obtain ⟨a, xs, rfl, hx, hp⟩ := LsK.out ((LsK K Ps).mono (Ex.trans t2.k t3.k) p1)
  refine ⟨a, xs, rfl, SqL.up I3.sub hx, fun p hn => ?_⟩
  have t4 : Step none G3 H3 (upd G3 p (.lst (cutV xs l h))) (upd H3 p (.lst (cutV xs l h))) := Step.new I3.sub hn
  exact k _ _ _ (((t1.trans t2).trans t3).trans t4.any) (I3.pure t4) ⟨p, _, rfl, upd_same, (hp.cut l h).mono t4.k⟩
end
end Ty
end
section
/-! The law's numbers. -/
namespace Tf
open PySem PySem.Spec PyProof.Rows L2 Ty TL
section
variable {P : Program} {w : World} {K : PySem.W.Frag} {mg : Str → Option Value} {base : Heap} {f : Addr} {fd : FuncData} {cR cF cW cU cY : Addr}
/-! ### _law_at -/
abbrev NAt : List Str := ["_law_script", "_law_k"]
theorem scAt : FnScope NAt NAt (defScope (top 58)) := ⟨rfl, rfl, rfl, by decide +kernel, rfl, by decide +kernel, by decide +kernel⟩
abbrev spAt (K : PySem.W.Frag) : Sp := SpD (fun d : List Int × Nat => [LsK K (d.1.map IsI), ni d.2]) (fun _ => True) (fun d => IsI (d.1.getD d.2 0))
theorem body_at (b : Fb mg) (d : List Int × Nat) : BodyOk P w K mg base NAt "_law_at" (defScope (top 58)) (defBody (top 58)) 0 (padG NAt ([LsK K (d.1.map IsI), ni d.2].map .is)) (IsI (d.1.getD d.2 0)) none := by
  intro f cdv Ar outer s H E fam
  refine ⟨none, ?_, fun _ h => nomatch h⟩
  refine b_ifr (b := decide ((d.2 : Int) < ((d.1.map IsI).length : Nat))) (t_lt (vr 1) (e_lenK (fun _ => b.len) (fun _ => rfl) (vr 0))) (fun hb => ?_) (fun hb => ?_)
  · have h := of_decide_eq_true hb
    rw [List.length_map] at h
    exact b_ret (e_ixK (fun _ => rfl) (vr 0) (vr 1) (at_map (d := 0) (by omega))) OwnAt.none
  · have h := of_decide_eq_false hb
    rw [List.length_map] at h
    refine b_ret (TyE.eq e_int ?_) OwnAt.none
    rw [List.getD_eq_getElem?_getD, List.getElem?_eq_none (by omega)]
    rfl
/-! ### _law_numbers -/
/-- a row of so many numbers, not too great -/
def goodR (o B : Nat) (r : List Int) : Prop := r.length = o ∧ ∀ x ∈ r, x.natAbs ≤ 2 ^ 69 + B
structure okT (rows : List (List Int)) : Prop where
  n1 : 1 ≤ rows.length
  n4 : rows.length ≤ 4
  eq : ∀ r ∈ rows, r.length = (rows.headD []).length
  m1 : 1 ≤ (rows.headD []).length
  m4 : (rows.headD []).length ≤ 4
  bd : ∀ r ∈ rows, ∀ x ∈ r, x.natAbs ≤ 2 ^ 70
abbrev rowsP : Pd := Some' okT fun rows => Ls (rows.map rowP)
abbrev p14 : Pd := Some' (fun x : Nat => 1 ≤ x ∧ x ≤ 4) ni
abbrev NNu : List Str := ["_law_pool", "_law_many", "_law_outs", "_law_size", "_law_rows", "_law_k", "_law_at_here", "_law_number"]
theorem scNu : FnScope NNu ["_law_pool", "_law_many", "_law_outs"] (defScope (top 59)) := ⟨rfl, rfl, rfl, by decide +kernel, rfl, by decide +kernel, by decide +kernel⟩
abbrev spNu : Sp := SpO (fun _ : Nat => [p14, p14]) (fun c => c ≤ 900) (fun _ => rowsP) poolM (fun c => poolM (c + 40))
theorem rg_len {n : Nat} : (List.range n).length = n := List.length_range
theorem rg_at {n k d : Nat} (h : (List.range n)[k]? = some d) : d = k ∧ k < n := by
  obtain ⟨h1, h2⟩ := List.getElem?_eq_some_iff.mp h
  rw [List.getElem_range] at h2
  rw [List.length_range] at h1
  exact ⟨h2.symm, h1⟩
theorem le_any {s : Sl} : SlLe s .any := .any
theorem row_pick {o B : Nat} {ds : List Nat} (hl : ds.length = o) : ∀ v G, (Ls (ds.map fun _ => Some' (fun x : Int => x.natAbs ≤ 2 ^ 69 + B) IsI)).p v G → (Some' (goodR o B) rowP).p v G := fun v G h => by
  obtain ⟨xs, h1, h2⟩ := Ls.pick v G h
  refine ⟨xs, ⟨h1.len.trans hl, fun x hx => ?_⟩, h2⟩
  obtain ⟨_, _, h⟩ := h1.mem x hx
  exact h
theorem row_pick2 {o B : Nat} {ds : List Int} (hl : goodR o B ds) : ∀ v G, (Ls (ds.map fun d => Some' (fun x : Int => x.natAbs ≤ d.natAbs + 1) IsI)).p v G → (Some' (goodR o (B + 1)) rowP).p v G := fun v G h => by
  obtain ⟨xs, h1, h2⟩ := Ls.pick v G h
  refine ⟨xs, ⟨h1.len.trans hl.1, fun x hx => ?_⟩, h2⟩
  obtain ⟨d, hd, h⟩ := h1.mem x hx
  have := hl.2 d hd
  omega
theorem body_nu (b : Fb mg) (DR : Gf P w K mg base 1 "_law_draw" spDr) (c : Nat) (hc : c ≤ 900) : BodyOk P w K mg base NNu "_law_numbers" (defScope (top 59)) (defBody (top 59)) 1 (padG NNu (.own (poolM c) :: [p14, p14].map .is)) rowsP (some (poolM (c + 40))) := by
  intro f cdv Ar outer s H E fam
  have nd := scNu.nd
  refine ⟨none, ?_, fun _ h => nomatch h⟩
  refine b_open (k := 1) rfl fun many hm => b_open (k := 2) rfl fun outs ho => ?_
  have ep : (10 : Int) ^ (20 : Int).toNat = ((10 ^ 20 : Nat) : Int) := by decide
  refine b_st 3 (fun _ => nd) (P := Some' (fun s : Nat => s ≤ 10 ^ 20) ni) (e_ix (r := rIx K) (fun l => ix_seq) (e_lst (a_cons e_int (a_cons e_int (a_cons e_int (a_1 (TyE.eq (e_pow e_int e_int ⟨by decide, by decide, by decide⟩) (show _ = ni (10 ^ 20) by rw [ep])))))) (by rw [sizeLine_eq]; show 4 ≤ _; decide)) (e_draw fam DR c 4 ⟨_, rfl⟩ e_int rfl (by omega)) (o_ex2 fun x hx => ?_) (fun _ _ => rfl)) ?_
  · have hx : x < 4 := hx
    match x, hx with
    | 0, _ => exact (o_ixL (Ty.atI_nat (k := 0) rfl)).to (some_in (x := 3) (by decide))
    | 1, _ => exact (o_ixL (Ty.atI_nat (k := 1) rfl)).to (some_in (x := 7) (by decide))
    | 2, _ => exact (o_ixL (Ty.atI_nat (k := 2) rfl)).to (some_in (x := 7) (by decide))
    | 3, _ => exact (o_ixL (Ty.atI_nat (k := 3) rfl)).to (some_in (x := 10 ^ 20) (by decide))
  refine b_open (k := 3) rfl fun size hs => ?_
  refine b_stM 4 (fun _ => nd) (M := MlC rowP (goodR outs 0) 0) (fun i => pe_lst (uA_pa i)) (TyN.imp (n_lst a_nil (Nat.zero_le _)) mlC_nil) ?_
  let Inv : Nat → List Sl := fun k => [.own (poolM (c + 1 + 9 * k)), .is (ni many), .is (ni outs), .is (ni size), .mu (MlC rowP (goodR outs k) k), .any, .any, .any]
  refine b_forN (ks := [5]) (ds := List.range many) (it := ni) (Inv := Inv) (Bd := fun k d => (Inv k).set 5 (.is (ni d))) (fun _ => rfl) (fun _ => rfl) (i_rng (fun _ => b.range) (vr 1) (by omega)) (fun k d _ => g_nm 5 (fun _ => nd)) (fun k d hd => ?_) ?_
  · obtain ⟨rfl, hk⟩ := rg_at hd
    have hp : ∀ x : Nat, x < 2 * size + 1 → (((x : Nat) : Int) - (size : Int) / 2).natAbs ≤ 2 ^ 69 + d := fun x hx => by
      have h1 : (2 : Nat) ^ 69 = 590295810358705651712 := by decide
      have h2 : (10 : Nat) ^ 20 = 100000000000000000000 := by decide
      omega
    refine b_appU (i := 4) (Px := rowP) (C := goodR outs d) (N := d) (M := MlC rowP (goodR outs d) d) (fun _ => rfl) (fun _ => pv 4) rfl mlC_list (TyE.conv (e_lcO (ds := List.range outs) (it := ni) (f := fun _ => Some' (fun x : Int => x.natAbs ≤ 2 ^ 69 + d) IsI) (M := fun i => poolM (c + 1 + 9 * d + i)) 0 6 (by decide) rfl (fun _ => nd) (fun _ => rfl) (i_rng (fun _ => b.range) (vr 2) (by omega)) (fun i x hx => ?_) (by rw [rg_len, sizeLine_eq]; omega) (own0 rfl)) (row_pick rg_len)) rfl (by rw [sizeLine_eq]; omega) ?_
    · obtain ⟨rfl, hi⟩ := rg_at hx
      refine e_op (r := rI0 fun i j => .int (i - j)) (fun _ => op_sub) (e_draw fam.blk DR (c + 1 + 9 * d + x) (2 * size + 1) ⟨_, rfl⟩ (TyE.eq (e_add (e_mul e_int (vr 3) (mulW (k := 70) (l := 70) (by decide) (by rw [Int.natAbs_natCast]; omega))) e_int) (show _ = ni (2 * size + 1) by congr 1)) rfl (by omega) ⟨by omega, by omega⟩) (e_fdiv (vr 3) e_int ⟨by decide, by decide⟩) (o_ex1 fun y hy => OpT.to o_rI0 fun v G p => ⟨_, hp y hy, p⟩)
    refine TyB.weak (Ga := [.own (poolM (c + 1 + 9 * d + 4)), .is (ni many), .is (ni outs), .is (ni size), .mu (MlC rowP (goodR outs d) (d + 1)), .is (ni d), .any, .any]) ?_ (.cons (.own (poolM_mono (by rw [rg_len]; omega))) (GaLe.refl _))
    have endW : GaLe [.own (poolM (c + 1 + 9 * d + 4)), .is (ni many), .is (ni outs), .is (ni size), .mu (MlC rowP (goodR outs d) (d + 1)), .is (ni d), .any, .any] (Inv (d + 1)) := .cons (.own (poolM_mono (by omega))) (.cons .rfl (.cons .rfl (.cons .rfl (.cons (.mu (mlC_mono fun r hr => ⟨hr.1, fun x hx => Nat.le_succ_of_le (hr.2 x hx)⟩)) (.cons .any (.cons .rfl (.cons .rfl .nil)))))))
    by_cases h0 : d = 0
    · refine b_if (b := false) (TyT.eq (t_w (w_and (b2 := false) (t_gt (vr 5) e_int) (fun h => absurd (of_decide_eq_true h) (by omega)) (fun _ => GaLe.refl _))) (by simp)) (fun h => nomatch h) (fun _ => b_nil endW) (b_nil (GaLe.refl _))
    · refine b_ifq (q_and (TyT.eq (t_gt (vr 5) e_int) (decide_eq_true (by omega))) (q_eq (e_draw fam DR (c + 1 + 9 * d + 4) 6 ⟨_, rfl⟩ e_int rfl (by omega)) e_int)) ?_ (b_nil (.cons (.own (poolM_mono (by omega))) (.cons .rfl (.cons .rfl (.cons .rfl (.cons (.mu (mlC_mono fun r hr => ⟨hr.1, fun x hx => Nat.le_succ_of_le (hr.2 x hx)⟩)) (.cons .any (.cons .rfl (.cons .rfl .nil))))))))) (b_nil (GaLe.refl _))
      refine b_openMu (k := 4) rfl fun rows hrows => ?_
      have hd1 : d - 1 < rows.length := by have := hrows.1; omega
      have hgr := hrows.2 (rows.getD (d - 1) []) (by rw [List.getD_eq_getElem?_getD, List.getElem?_eq_getElem hd1]; exact List.getElem_mem hd1)
      have hln : (rows.getD (d - 1) []).length ≤ 4 := by rw [hgr.1]; omega
      refine TyB.weak (Ga := [.own (poolM (c + 1 + 9 * d + 5)), .is (ni many), .is (ni outs), .is (ni size), .mu (Ml (rows.map rowP)), .is (ni d), .any, .any]) ?_ (.cons (.own (poolM_mono (by omega))) (GaLe.refl _))
      refine b_setIM (i := 4) (Px := rowP) (C := goodR outs (d + 1)) (N := d + 1) (k := d) (fun _ => pv 4) (TyE.conv (e_lcO (ds := rows.getD (d - 1) []) (it := IsI) (f := fun x => Some' (fun y : Int => y.natAbs ≤ x.natAbs + 1) IsI) (M := fun i => poolM (c + 1 + 9 * d + 5 + i)) 0 7 (by decide) rfl (fun _ => nd) (fun _ => rfl) (i_list (fun _ => rfl) (e_ixM (P := rowP (rows.getD (d - 1) [])) (fun _ => rfl) (fun _ => pv 4) ⟨_, rfl, .mu (M := Ml (rows.map rowP)) (M' := Ml (rows.map rowP))⟩ (e_sub (vr 5) e_int) rfl .mu (by rw [show ((d : Int) - 1) = ((d - 1 : Nat) : Int) by omega]; exact at_map hd1))) (fun i x hx => ?_) (by rw [sizeLine_eq]; omega) (own0 rfl)) (row_pick2 hgr)) ⟨_, rfl, .mu (M := Ml (rows.map rowP)) (M' := Ml (rows.map rowP))⟩ (vr 5) rfl rfl hrows.1 (fun r h => ⟨(hrows.2 r h).1, fun x hx => Nat.le_succ_of_le ((hrows.2 r h).2 x hx)⟩) (by omega) (b_nil (.cons (.own (poolM_mono (by omega))) (.cons .rfl (.cons .rfl (.cons .rfl (.cons .rfl (.cons .any (.cons .rfl (.cons .rfl .nil)))))))))
      have hi := (List.getElem?_eq_some_iff.mp hx).1
      exact e_op (r := rI0 fun i j => .int (i + j)) (fun _ => op_add) (vr 7) (e_draw fam.blk DR (c + 1 + 9 * d + 5 + i) 2 ⟨_, rfl⟩ e_int rfl (by omega)) (o_ex2 fun y hy => OpT.to o_rI0 fun v G p => ⟨_, by show (x + (y : Int)).natAbs ≤ x.natAbs + 1; have hy : y < 2 := hy; omega, p⟩)
  · refine b_freeze (k := 4) (P := rowsP) rfl (fun p o G hg m => ?_) (b_ret (vr 4) (OwnAt.imp 0 rfl (poolM_mono (by rw [rg_len]; omega))))
    obtain ⟨rows, ⟨h1, h2⟩, m⟩ := mlC_known p o G hg m
    rw [rg_len] at h1
    have hh : (rows.headD []).length = outs := by
      cases e : rows with
      | nil => rw [e] at h1; simp at h1; omega
      | cons a r => exact (h2 a (by rw [e]; exact List.mem_cons_self)).1
    exact ⟨rows, ⟨by omega, by omega, fun r hr => by rw [hh]; exact (h2 r hr).1, by omega, by omega, fun r hr x hx => by
      have h3 := (h2 r hr).2 x hx
      rw [rg_len] at h3
      have h1 : (2 : Nat) ^ 69 = 590295810358705651712 := by decide
      have h2 : (2 : Nat) ^ 70 = 1180591620717411303424 := by decide
      omega⟩, m⟩
end
end Tf
end
section
/-! The law's rule by drawn prices. -/
namespace Tf
open PySem PySem.Spec PyProof.Rows L2 Ty TL
/-- an outcome for each kind -/
def okU (rows : List (List Int)) (t : List Nat) : Prop := t.length = rows.length ∧ ∀ o ∈ t, o < (rows.headD []).length
abbrev toldP (rows : List (List Int)) : Pd := Some' (okU rows) fun t => Ls (t.map ni)
section
variable {P : Program} {w : World} {K : PySem.W.Frag} {mg : Str → Option Value} {base : Heap} {f : Addr} {fd : FuncData} {cR cF cW cU cY : Addr}
abbrev NTo : List Str := ["_law_pool", "_law_rows", "_law_outs", "_law_prices", "_law_found", "_law_row", "_law_left", "_law_at_here"]
theorem scTo : FnScope NTo ["_law_pool", "_law_rows"] (defScope (top 60)) := ⟨rfl, rfl, rfl, by decide +kernel, rfl, by decide +kernel, by decide +kernel⟩
abbrev spTo : Sp := SpO (fun d : Nat × List (List Int) => [Ls (d.2.map rowP)]) (fun d => d.1 ≤ 900 ∧ okT d.2) (fun d => toldP d.2) (fun d => poolM d.1) (fun d => poolM (d.1 + 20))
theorem told_pick {rows : List (List Int)} : ∀ v G, (Ls (rows.map fun _ => drP (rows.headD []).length)).p v G → (toldP rows).p v G := fun v G h => by
  obtain ⟨xs, h1, h2⟩ := Ls.pick v G h
  refine ⟨xs, ⟨h1.len, fun x hx => ?_⟩, h2⟩
  obtain ⟨_, _, h⟩ := h1.mem x hx
  exact h
theorem body_to (b : Fb mg) (DR : Gf P w K mg base 1 "_law_draw" spDr) (d : Nat × List (List Int)) (h : d.1 ≤ 900 ∧ okT d.2) : BodyOk P w K mg base NTo "_law_told_row" (defScope (top 60)) (defBody (top 60)) 1 (padG NTo (.own (poolM d.1) :: [Ls (d.2.map rowP)].map .is)) (toldP d.2) (some (poolM (d.1 + 20))) := by
  intro f cdv Ar outer s H E fam
  obtain ⟨c, rows⟩ := d
  have hc : c ≤ 900 := h.1
  have ht : okT rows := h.2
  have nd := scTo.nd
  have n4 := ht.n4
  have m4 := ht.m4
  have m1 := ht.m1
  generalize ho : (rows.headD []).length = outs at *
  have at0 : atI (rows.map rowP) ((0 : Nat) : Int) = some (rowP (rows.headD [])) := by
    have := at_map (l := rows) (g := rowP) (k := 0) (d := []) ht.n1
    rw [show rows.getD 0 [] = rows.headD [] by cases rows <;> rfl] at this
    exact this
  refine ⟨none, ?_, fun _ h => nomatch h⟩
  refine b_st 2 (fun _ => nd) (P := ni outs) (TyE.eq (e_lenL (Ps := (rows.headD []).map IsI) (fun _ => b.len) (fun _ => rfl) (e_ixL (fun _ => rfl) (vr 1) e_int at0)) (by rw [List.length_map, ho])) ?_
  refine b_st 3 (fun _ => nd) (e_lcO (ds := List.range outs) (it := ni) (f := fun _ => drP 9) (M := fun i => poolM (c + i)) 0 7 (by decide) rfl (fun _ => nd) (fun _ => rfl) (i_rng (fun _ => b.range) (vr 2) (by omega)) (fun i x hx => ?_) (by rw [rg_len, sizeLine_eq]; omega) (own0 rfl)) ?_
  · have hi := (rg_at hx).2
    obtain rfl := (rg_at hx).1
    exact e_draw fam.blk DR (c + x) 9 ⟨_, rfl⟩ e_int rfl (by omega)
  refine TyB.weak (Ga := [.own (poolM (c + 4)), .is (Ls (rows.map rowP)), .is (ni outs), .is (Some' (PW (fun (_ : Nat) (x : Nat) => x < 9) (List.range outs)) fun xs => Ls (xs.map ni)), .any, .any, .any, .any]) ?_ (.cons (.own (poolM_mono (by rw [rg_len]; omega))) (.cons .rfl (.cons .rfl (.cons (.is (Ls.pick (C := fun (_ : Nat) (x : Nat) => x < 9) (Px := ni))) (GaLe.refl _)))))
  refine b_open (k := 3) rfl fun prices hp => ?_
  have lp : prices.length = outs := hp.len.trans rg_len
  refine b_stM 4 (fun _ => nd) (M := MlC ni (fun o => o < outs) 0) (fun i => pe_lst (uA_pa i)) (TyN.imp (n_lst a_nil (Nat.zero_le _)) mlC_nil) ?_
  refine b_forN (ks := [5]) (ds := rows) (it := rowP) (Inv := fun k => [.own (poolM (c + 4)), .is (Ls (rows.map rowP)), .is (ni outs), .is (Ls (prices.map ni)), .mu (MlC ni (fun o => o < outs) k), .any, .any, .any]) (Bd := fun k r => [.own (poolM (c + 4)), .is (Ls (rows.map rowP)), .is (ni outs), .is (Ls (prices.map ni)), .mu (MlC ni (fun o => o < outs) k), .is (rowP r), .any, .any]) (fun _ => rfl) (fun _ => rfl) (i_list (fun _ => rfl) (vr 1)) (fun k r _ => g_nm 5 (fun _ => nd)) (fun k r hr => ?_) ?_
  · have hkl := (List.getElem?_eq_some_iff.mp hr).1
    have hrl : r.length = outs := by rw [ht.eq r (List.mem_of_getElem? hr), ho]
    let L : List Int := (List.range outs).map fun i => r.getD i 0 - (prices.getD i 0 : Nat)
    have lL : L.length = outs := by rw [List.length_map, List.length_range]
    refine b_lcN (ds := List.range outs) (it := ni) (f := fun i => IsI (r.getD i 0 - (prices.getD i 0 : Nat))) 6 7 (fun _ => nd) (fun _ => rfl) (i_rng (fun _ => b.range) (vr 2) (by omega)) (fun i hi => ?_) (by rw [rg_len, sizeLine_eq]; omega) (fun i M h z => by subst z; cases h) ?_
    · have hi := List.mem_range.mp hi
      exact e_sub (e_ixL (Ps := r.map IsI) (fun _ => rfl) (vr 5) (vr 7) (at_map (by omega))) (e_ixL (Ps := prices.map ni) (fun _ => rfl) (vr 3) (vr 7) (at_map (by omega)))
    · have eL : Ls ((List.range outs).map fun i => IsI (r.getD i 0 - (prices.getD i 0 : Nat))) = Ls (L.map IsI) := by rw [List.map_map]; rfl
      have hl : 0 < L.length := by omega
      obtain ⟨j, j1, j2⟩ := first_at (maxI_mem hl).1
      have jl := (List.getElem?_eq_some_iff.mp j1).1
      refine b_appU (i := 4) (Px := ni) (C := fun o => o < outs) (N := k) (M := MlC ni (fun o => o < outs) k) (fun _ => rfl) (fun _ => pv 4) rfl mlC_list (TyE.conv (e_index j (fun _ => rfl) (TyE.eq (vr 6) eL) (e_max (fun _ => rfl) (fun _ => b.max) (fun _ => rfl) (TyE.eq (vr 6) eL) hl (maxI_eq hl)) j1 j2) (some_in (x := j) (Px := ni) (C := fun o => o < outs) (by omega))) rfl (by rw [sizeLine_eq]; omega) (b_nil (.cons .rfl (.cons .rfl (.cons .rfl (.cons .rfl (.cons .rfl (.cons .any (.cons .any (.cons .any .nil)))))))))
  · refine b_ifq (Gc := [.own (poolM (c + 7)), .is (Ls (rows.map rowP)), .is (ni outs), .is (Ls (prices.map ni)), .mu (MlC ni (fun o => o < outs) rows.length), .any, .any, .any]) (q_eq (e_draw fam DR (c + 4) 3 ⟨_, rfl⟩ e_int rfl (by omega)) e_int) ?_ (b_nil (.cons (.own (poolM_mono (by omega))) (GaLe.refl _))) ?_
    · refine b_setU (i := 4) (M := MlC ni (fun o => o < outs) rows.length) (Px := ni) (C := fun o => o < outs) (N := rows.length) (fun _ => pv 4) (e_draw fam DR (c + 5) outs ⟨_, rfl⟩ (vr 2) rfl (by omega) ⟨by omega, by omega⟩) ⟨_, rfl, .mu⟩ (e_draw fam DR (c + 6) rows.length ⟨_, rfl⟩ (e_lenMu (fun _ => b.len) (fun _ => rfl) (fun _ => pv 4) rfl fun o G m => ?_) rfl (by omega) ⟨by have := ht.n1; omega, by omega⟩) rfl (b_nil (GaLe.refl _))
      obtain ⟨l, ⟨h1, _⟩, xs, e, hx⟩ := m
      exact ⟨xs, e, by rw [hx.length, List.length_map, h1]⟩
    · refine b_freeze (k := 4) (P := toldP rows) rfl (fun p o G hg m => ?_) ?_
      · obtain ⟨l, hl, hp⟩ := mlC_known p o G hg m
        exact ⟨l, ⟨hl.1, fun o h => by rw [ho]; exact hl.2 o h⟩, hp⟩
      · refine b_ifq (Gc := [.own (poolM (c + 20)), .is (Ls (rows.map rowP)), .is (ni outs), .is (Ls (prices.map ni)), .is (toldP rows), .any, .any, .any]) (q_eq (e_draw fam DR (c + 7) 4 ⟨_, rfl⟩ e_int rfl (by omega)) e_int) ?_ (b_nil (.cons (.own (poolM_mono (by omega))) (GaLe.refl _))) (b_ret (vr 4) (OwnAt.at 0 rfl))
        refine b_lcO (ds := rows) (it := rowP) (f := fun _ => drP outs) (M := fun i => poolM (c + 8 + i)) 0 4 5 (by decide) rfl (fun _ => nd) (fun _ => rfl) (i_list (fun _ => rfl) (vr 1)) (fun i x hx => ?_) (by rw [sizeLine_eq]; omega) (own0 rfl) (b_nil (.cons (.own (poolM_mono (by omega))) (.cons .rfl (.cons .rfl (.cons .rfl (.cons (.is fun v G hp => told_pick v G (by rw [ho]; exact hp)) (GaLe.refl _)))))))
        have hi := (List.getElem?_eq_some_iff.mp hx).1
        exact e_draw fam.blk DR (c + 8 + i) outs ⟨_, rfl⟩ (vr 2) rfl (by omega) ⟨by omega, by omega⟩
end
end Tf
end
section
/-! The law's texts, its rings. -/
namespace Tf
open PySem PySem.Spec PyProof.Rows L2 Ty TL
section
variable {P : Program} {w : World} {K : PySem.W.Frag} {mg : Str → Option Value} {base : Heap} {f : Addr} {fd : FuncData} {cR cF cW cU cY : Addr}
theorem rw_sum {rows : List (List Int)} (h : sWD rows) {x : List Int} (hx : x ∈ rows) : ((x.map numT).map (·.length)).sum + (x.map numT).length * (" " : Str).length ≤ 16777216 := by
  have es : (" " : Str).length = 1 := by decide
  have hl : ((x.map numT).map (·.length)).sum ≤ 6 * 101 := by
    have := sum_le (l := (x.map numT).map (·.length)) (B := 101) fun y hy => by
      obtain ⟨z, hz, rfl⟩ := List.mem_map.mp hy
      obtain ⟨n, hn, rfl⟩ := List.mem_map.mp hz
      exact len80 (h.bd x hx n hn)
    rw [List.length_map, List.length_map] at this
    exact Nat.le_trans this (Nat.mul_le_mul_right 101 (h.row hx).2)
  have := (h.row hx).2
  rw [es, List.length_map]; omega
theorem wo_sum {rows : List (List Int)} (h : sWD rows) : ((rows.map rwT).map (·.length)).sum + (rows.map rwT).length * ("; " : Str).length ≤ 16777216 := by
  have es2 : ("; " : Str).length = 2 := by decide
  have n6 := h.rc.n6
  have hl : ((rows.map rwT).map (·.length)).sum ≤ 6 * 612 := by
    have := sum_le (l := (rows.map rwT).map (·.length)) (B := 612) fun y hy => by
      obtain ⟨z, hz, rfl⟩ := List.mem_map.mp hy
      obtain ⟨n, hn, rfl⟩ := List.mem_map.mp hz
      exact rwT_len h hn
    rw [List.length_map, List.length_map] at this
    exact Nat.le_trans this (Nat.mul_le_mul_right 612 n6)
  rw [es2, List.length_map]; omega
/-! ### _law_worths -/
abbrev NLW : List Str := ["_law_rows", "_law_row", "_law_number"]
theorem scLW : FnScope NLW ["_law_rows"] (defScope (top 62)) := ⟨rfl, rfl, rfl, by decide +kernel, rfl, by decide +kernel, by decide +kernel⟩
abbrev spLW (cW : Addr) : Sp := SpD (fun t : List (List Int) => [Ls (t.map rowP)]) sWD (fun t => Wo cW t)
theorem body_lw (b : Fb mg) (r : WoF mg K cW) (RD : Cm P w K mg base 3 cW "read" (spWD cW)) (t : List (List Int)) (h : sWD t) : BodyOk P w K mg base NLW "_law_worths" (defScope (top 62)) (defBody (top 62)) 3 (padG NLW ([Ls (t.map rowP)].map .is)) (Wo cW t) none := by
  intro f cdv Ar outer s H E fam
  have nd := scLW.nd
  have n6 := h.rc.n6
  refine ⟨none, ?_, fun _ h => nomatch h⟩
  exact b_ret (e_cm fam RD t (e_cls (fun _ => r.glo)) (a_1 (e_join (ys := t.map rwT) (fun _ => rfl) e_str (TyE.eq (e_lcN (ds := t) (it := rowP) (f := fun x => stP (rwT x)) 1 (fun _ => nd) (fun _ => rfl) (i_list (fun _ => rfl) (vr 0)) (fun x hx => e_join (ys := x.map numT) (fun _ => rfl) e_str (TyE.eq (e_lcN (ds := x) (it := IsI) (f := fun n => stP (numT n)) 2 (fun _ => nd) (fun _ => rfl) (i_list (fun _ => rfl) (vr 1)) (fun n hn => e_strI (fun _ => b.str) (Nat.lt_trans (log2_lt (by decide) (h.bd x hx n hn)) (by decide)) (vr 2)) (by have := (h.row hx).2; rw [sizeLine_eq]; omega) (fun i M h z => by subst z; cases h)) (by rw [List.map_map]; rfl)) (rw_sum h hx)) (by rw [sizeLine_eq]; omega) (fun i M h z => by subst z; cases h)) (by rw [List.map_map]; rfl)) (wo_sum h))) rfl h) OwnAt.none
/-! ### _law_rule -/
abbrev NLR : List Str := ["_law_told", "_law_number"]
theorem scLR : FnScope NLR ["_law_told"] (defScope (top 63)) := ⟨rfl, rfl, rfl, by decide +kernel, rfl, by decide +kernel, by decide +kernel⟩
abbrev spLR (cU : Addr) : Sp := SpD (fun t : List Nat => [Ls (t.map ni)]) sRI (fun t => Ru cU t)
theorem body_lr (b : Fb mg) (r : RuF mg K cU) (RD : Cm P w K mg base 3 cU "read" (spUR cU)) (t : List Nat) (h : sRI t) : BodyOk P w K mg base NLR "_law_rule" (defScope (top 63)) (defBody (top 63)) 3 (padG NLR ([Ls (t.map ni)].map .is)) (Ru cU t) none := by
  intro f cdv Ar outer s H E fam
  have nd := scLR.nd
  have n6 := h.2.1
  refine ⟨none, ?_, fun _ h => nomatch h⟩
  refine b_ret (e_cm fam RD t (e_cls (fun _ => r.glo)) (a_1 (e_join (ys := t.map fun n : Nat => numT (n : Int)) (fun _ => rfl) e_str (TyE.eq (e_lcN (ds := t) (it := ni) (f := fun n => stP (numT (n : Int))) 1 (fun _ => nd) (fun _ => rfl) (i_list (fun _ => rfl) (vr 0)) (fun n hn => e_strI (fun _ => b.str) (Nat.lt_trans (log2_lt (k := 10) (by decide) (by rw [Int.natAbs_natCast]; exact Nat.lt_trans (h.2.2 n hn) (by decide))) (by decide)) (vr 1)) (by rw [sizeLine_eq]; omega) (fun i M h z => by subst z; cases h)) (by rw [List.map_map]; rfl)) ?_)) rfl h) OwnAt.none
  have es : (" " : Str).length = 1 := by decide
  have hl := sum_le (l := (t.map fun n : Nat => numT (n : Int)).map (·.length)) (B := 101) fun y hy => by
    obtain ⟨z, hz, rfl⟩ := List.mem_map.mp hy
    obtain ⟨n, hn, rfl⟩ := List.mem_map.mp hz
    exact len80 (by rw [Int.natAbs_natCast]; exact Nat.lt_trans (h.2.2 n hn) (by decide))
  rw [List.length_map, List.length_map] at hl
  rw [es, List.length_map]
  omega
/-! ### _law_fees -/
abbrev NLF : List Str := ["_law_pays", "_law_number"]
theorem scLF2 : FnScope NLF ["_law_pays"] (defScope (top 64)) := ⟨rfl, rfl, rfl, by decide +kernel, rfl, by decide +kernel, by decide +kernel⟩
abbrev spLFe (cR cF : Addr) : Sp := SpD (fun t : List Rat => [Ls (t.map (Ra cR))]) sFD (fun t => Fe cR cF t)
theorem body_lfe (b : Fb mg) (r : FeF mg K cF) (ST : Sf P w K mg base 1 cR "__str__" (spRS9 cR)) (RD : Cm P w K mg base 5 cF "read" (spFD cR cF)) (t : List Rat) (h : sFD t) : BodyOk P w K mg base NLF "_law_fees" (defScope (top 64)) (defBody (top 64)) 5 (padG NLF ([Ls (t.map (Ra cR))].map .is)) (Fe cR cF t) none := by
  intro f cdv Ar outer s H E fam
  have nd := scLF2.nd
  have n6 := h.l6
  refine ⟨none, ?_, fun _ h => nomatch h⟩
  refine b_ret (e_cm fam RD t (e_cls (fun _ => r.glo)) (a_1 (e_join (ys := t.map ratT) (fun _ => rfl) e_str (TyE.eq (e_lcN (ds := t) (it := Ra cR) (f := fun q => stP (ratT q)) 1 (fun _ => nd) (fun _ => rfl) (i_list (fun _ => rfl) (vr 0)) (fun q hq => e_strO fam.blk ST q rfl (h.sz q hq) rfl (fun _ => b.str) (vr 1)) (by rw [sizeLine_eq]; omega) (fun i M h z => by subst z; cases h)) (by rw [List.map_map]; rfl)) ?_)) rfl h) OwnAt.none
  have es : (" " : Str).length = 1 := by decide
  have hl := sum_le (l := (t.map ratT).map (·.length)) (B := 203) fun y hy => by
    obtain ⟨z, hz, rfl⟩ := List.mem_map.mp hy
    obtain ⟨n, hn, rfl⟩ := List.mem_map.mp hz
    exact ratT_len (h.sz n hn)
  rw [List.length_map, List.length_map] at hl
  rw [es, List.length_map]
  omega
/-! ### _law_pair -/
abbrev NLP : List Str := ["_law_rows", "_law_told"]
theorem scLP : FnScope NLP NLP (defScope (top 67)) := ⟨rfl, rfl, rfl, by decide +kernel, rfl, by decide +kernel, by decide +kernel⟩
abbrev spLP (cW cU : Addr) : Sp := SpD (fun d : dWR => [Ls (d.1.map rowP), Ls (d.2.map ni)]) (fun d => sWD d.1 ∧ sRI d.2) (fun d => Tp [Wo cW d.1, Ru cU d.2])
theorem body_lp (LW : Gf P w K mg base 4 "_law_worths" (spLW cW)) (LR : Gf P w K mg base 4 "_law_rule" (spLR cU)) (d : dWR) (h : sWD d.1 ∧ sRI d.2) : BodyOk P w K mg base NLP "_law_pair" (defScope (top 67)) (defBody (top 67)) 4 (padG NLP ([Ls (d.1.map rowP), Ls (d.2.map ni)].map .is)) (Tp [Wo cW d.1, Ru cU d.2]) none := by
  intro f cdv Ar outer s H E fam
  refine ⟨none, ?_, fun _ h => nomatch h⟩
  exact b_ret (e_tup (a_2 (e_gf fam LW d.1 (fun _ => rfl) (a_1 (vr 0)) h.1) (e_gf fam LR d.2 (fun _ => rfl) (a_1 (vr 1)) h.2)) len2) OwnAt.none
end
end Tf
end
section
/-! The law's rings. -/
namespace Tf
open PySem PySem.Spec PyProof.Rows L2 Ty TL
def extV (n : Nat) (r : List Nat) : List (List Nat) := ((List.range (n - (r.getD 0 0 + 1))).filter fun i : Nat => !decide ((((r.getD 0 0 : Nat) : Int) + 1) + (i : Int) ∈ r.map fun k : Nat => (k : Int))).map fun i => r ++ [r.getD 0 0 + 1 + i]
/-- found, line behind i turns -/
def stV (n : Nat) : Nat → List (List Nat) × List (List Nat)
  | 0 => ([], (List.range n).map fun k => [k])
  | i + 1 => ((stV n i).1 ++ (stV n i).2.flatMap (extV n), (stV n i).2.flatMap (extV n))
def ringsV (n : Nat) : List (List Nat) := (stV n n).1
/-- what is seen of all rings of few kinds -/
def lookR (n i : Nat) : Bool := (stV n i).2.all (fun r => decide (1 ≤ r.length) && decide (r.length ≤ 4) && decide (r.getD 0 0 < n)) && decide ((stV n i).2.length ≤ 30) && decide ((stV n i).1.length ≤ 60) && decide (((stV n i).2.flatMap (extV n)).length ≤ 30) && (decide ((stV n i).2 ≠ [] → i < n)) && (decide ((stV n i).2 = [] → (stV n i).1 = (stV n n).1))
theorem lookR_all : ∀ n : Fin 5, ∀ i : Fin 5, i.1 ≤ n.1 → lookR n.1 i.1 = true := by decide +kernel
structure LookR (n i : Nat) : Prop where
  row : ∀ r ∈ (stV n i).2, 1 ≤ r.length ∧ r.length ≤ 4 ∧ r.getD 0 0 < n
  l2 : (stV n i).2.length ≤ 30
  l1 : (stV n i).1.length ≤ 60
  ln : ((stV n i).2.flatMap (extV n)).length ≤ 30
  go : (stV n i).2 ≠ [] → i < n
  st : (stV n i).2 = [] → (stV n i).1 = ringsV n
theorem look_at {n i : Nat} (h : n ≤ 4) (hi : i ≤ n) : LookR n i := by
  have := lookR_all ⟨n, by omega⟩ ⟨i, by omega⟩ hi
  unfold lookR at this
  simp only [Bool.and_eq_true, decide_eq_true_eq, List.all_eq_true] at this
  obtain ⟨⟨⟨⟨⟨h1, h2⟩, h3⟩, h4⟩, h5⟩, h6⟩ := this
  exact ⟨fun r hr => ⟨(h1 r hr).1.1, (h1 r hr).1.2, (h1 r hr).2⟩, h2, h3, h4, h5, h6⟩
def goodRing (n : Nat) (r : List Nat) : Bool := decide (2 ≤ r.length) && decide (r.length ≤ 6) && r.all (fun k => decide (k < n)) && decide r.Nodup
theorem rings_all : ∀ n : Fin 5, (ringsV n.1).all (goodRing n.1) = true ∧ (ringsV n.1).length ≤ 60 := by decide +kernel
theorem rings_ok {n : Nat} (h : n ≤ 4) {r : List Nat} (hr : r ∈ ringsV n) : 2 ≤ r.length ∧ r.length ≤ 6 ∧ (∀ k ∈ r, k < n) ∧ r.Nodup := by
  have := List.all_eq_true.mp (rings_all ⟨n, by omega⟩).1 r hr
  unfold goodRing at this
  simp only [Bool.and_eq_true, decide_eq_true_eq, List.all_eq_true] at this
  exact ⟨this.1.1.1, this.1.1.2, this.1.2, this.2⟩
theorem rings_len {n : Nat} (h : n ≤ 4) : (ringsV n).length ≤ 60 := (rings_all ⟨n, by omega⟩).2
abbrev tupP (r : List Nat) : Pd := Tp (r.map ni)
def tupsD (ls : List (List Nat)) : PyData := .list (ls.map toldD)
theorem dq_tups {K : PySem.W.Frag} (ls : List (List Nat)) : Dq K (Ls (ls.map tupP)) (tupsD ls) := dq_ls (g := toldD) (fun r => dq_told r) ls
theorem depth_tups (ls : List (List Nat)) : (tupsD ls).depth ≤ 64 := by
  unfold tupsD PyData.depth
  have := depth_all (g := toldD) (k := 1) (fun t => by
    unfold toldD PyData.depth
    have := depth_all (g := fun n : Nat => PyData.int (n : Int)) (k := 0) (fun a => by simp [PyData.depth]) t
    omega) ls
  omega
theorem eqv_tups (a b : List (List Nat)) : PyData.eqv (tupsD a) (tupsD b) = true ↔ a = b := eqv_ls eqv_told a b
section
variable {P : Program} {w : World} {K : PySem.W.Frag} {mg : Str → Option Value} {base : Heap} {f : Addr} {fd : FuncData} {cR cF cW cU cY : Addr}
abbrev NRg : List Str := ["_law_many", "_law_found", "_law_line", "_law_longer", "_law_row", "_law_k"]
theorem scRg : FnScope NRg ["_law_many"] (defScope (top 65)) := ⟨rfl, rfl, rfl, by decide +kernel, rfl, by decide +kernel, by decide +kernel⟩
abbrev spRg : Sp := SpD (fun n : Nat => [ni n]) (fun n => n ≤ 4) (fun n => Ls ((ringsV n).map tupP))
theorem body_rg (b : Fb mg) (n : Nat) (h : n ≤ 4) : BodyOk P w K mg base NRg "_law_rings" (defScope (top 65)) (defBody (top 65)) 1 (padG NRg ([ni n].map .is)) (Ls ((ringsV n).map tupP)) none := by
  intro f cdv Ar outer s H E fam
  have nd := scRg.nd
  refine ⟨none, ?_, fun _ h => nomatch h⟩
  refine b_par (P1 := Ls (([] : List (List Nat)).map tupP)) (P2 := Ls (((List.range n).map fun k => [k]).map tupP)) (fun l => ps_par (i := 1) (j := 2) rfl nd rfl rfl (by decide) rfl rfl (uA_pa l) (by rfl)) (a_2 (e_lst a_nil (Nat.zero_le _)) (TyE.eq (e_lcN (ds := List.range n) (it := ni) (f := fun k => tupP [k]) 5 (fun _ => nd) (fun _ => rfl) (i_rng (fun _ => b.range) (vr 0) (by omega)) (fun k hk => e_tup (a_1 (vr 5)) len1) (by rw [rg_len, sizeLine_eq]; omega) (fun i M h z => by subst z; cases h)) (by rw [List.map_map]; rfl))) ?_
  let Inv : Nat → List Sl := fun i => [.is (ni n), .is (Ls ((stV n i).1.map tupP)), .is (Ls ((stV n i).2.map tupP)), .any, .any, .any]
  refine TyB.weak (Ga := Inv 0) ?_ (.cons .rfl (.cons .rfl (.cons .rfl (.cons .any (.cons .any (.cons .any .nil))))))
  refine b_while Inv Inv (fun i => !decide ((stV n i).2 = [])) (fun i => i + 1) (fun i => n - i) (fun i => i ≤ n) 0 (Nat.zero_le _) (fun _ => rfl) rfl (fun i hi => ?_) (fun i hi ht => ?_) (fun i hi ht => ?_) (fun i hi ht => ?_)
  · exact t_neD fam (vr 2) (e_lst a_nil (Nat.zero_le _)) (dq_tups (stV n i).2) (dq_tups []) (depth_tups _) (depth_tups _) (eqv_dec eqv_tups (stV n i).2 [])
  · have lk := look_at h hi
    refine b_st 3 (fun _ => nd) (P := Ls (([] : List (List Nat)).map tupP)) (e_lst a_nil (Nat.zero_le _)) ?_
    refine b_forF (ks := [4]) (stV n i).2 tupP (fun acc : List (List Nat) => [.is (ni n), .is (Ls ((stV n i).1.map tupP)), .is (Ls ((stV n i).2.map tupP)), .is (Ls (acc.map tupP)), .any, .any]) (fun acc r => [.is (ni n), .is (Ls ((stV n i).1.map tupP)), .is (Ls ((stV n i).2.map tupP)), .is (Ls (acc.map tupP)), .is (tupP r), .any]) (fun acc r => acc ++ extV n r) [] (fun pre acc => acc = pre.flatMap (extV n)) rfl (fun _ => rfl) (fun _ => rfl) (i_list (fun _ => rfl) (vr 2)) (fun acc r _ => g_nm 4 (fun _ => nd)) (fun pre acc r hr ha hpo => ?_) (fun pre acc r hr ha _ => ?_) fun ha => ?_
    · obtain ⟨hr1, hr4, hr0⟩ := lk.row r hr
      have hlen : acc.length + (extV n r).length ≤ 30 := by
        obtain ⟨post, hp⟩ := hpo
        have := lk.ln
        rw [hp, List.flatMap_append, List.flatMap_cons, List.length_append, List.length_append, ← ha] at this
        omega
      have ea : ((extV n r).map tupP).length = (extV n r).length := List.length_map _
      have ej : ((n : Int) - (((r.getD 0 0 : Nat) : Int) + 1)).toNat = n - (r.getD 0 0 + 1) := by omega
      have em : ∀ r : List Nat, Tp (r.map ni) = Tp ((r.map fun k : Nat => (k : Int)).map IsI) := fun r => by rw [List.map_map]; rfl
      let Gl : List Sl := [.is (ni n), .is (Ls ((stV n i).1.map tupP)), .is (Ls ((stV n i).2.map tupP)), .is (Ls (acc.map tupP)), .is (tupP r), .any]
      refine b_st (Gb := Gl) 3 (fun _ => nd) (P := Ls ((acc ++ extV n r).map tupP)) (TyE.eq (e_op (Gb := Gl) (Gc := Gl) (r := rCat) (fun _ => op_cat) (vr 3) (TyE.eq (P' := Ls ((extV n r).map tupP)) (e_lcF (Gb := Gl) (ds := List.range (n - (r.getD 0 0 + 1))) (it := fun i => IsI ((((r.getD 0 0 : Nat) : Int) + 1) + (i : Int))) (f := fun i => tupP (r ++ [r.getD 0 0 + 1 + i])) (t := fun i => !decide ((((r.getD 0 0 : Nat) : Int) + 1) + (i : Int) ∈ r.map fun k : Nat => (k : Int))) 5 (fun _ => nd) (fun _ => rfl) ?_ (fun k hk => ?_) (fun k hk _ => ?_) (by rw [rg_len, sizeLine_eq]; omega) (fun i M h z => by subst z; cases h)) (by unfold extV; rw [List.map_map]; rfl)) (o_cat (by have h1 : (acc.map tupP).length = acc.length := List.length_map _; rw [ea, h1, sizeLine_eq]; omega))) (by rw [← List.map_append])) (b_nil (.cons .rfl (.cons .rfl (.cons .rfl (.cons .rfl (.cons .any (.cons .any .nil)))))))
      · rw [← ej]
        exact i_range2 (fun _ => rfl) (fun _ => b.range) (a_2 (e_add (e_ixT (fun _ => rfl) (vr 4) e_int (at_map (l := r) (g := ni) (d := 0) (k := 0) (by omega))) e_int) (vr 0)) ⟨by omega, by omega, by omega, by omega⟩
      · exact t_notIn (fun _ => rfl) (vr 5) (TyE.conv (TyE.eq (vr 4) (em r)) fun _ _ h => Tp.sq h)
      · refine TyE.eq (e_op (r := L2.rCatA K) (fun _ => op_catA) (vr 4) (e_tup (a_1 (vr 5)) len1) (o_catT (by rw [List.length_map, sizeLine_eq]; show r.length + 1 ≤ _; omega))) ?_
        show _ = Tp ((r ++ [r.getD 0 0 + 1 + k]).map ni)
        rw [List.map_append]
        rfl
    · rw [ha, List.flatMap_append]
      simp
    · have e1 : ∀ l : List (List Nat), l.foldl (fun acc r => acc ++ extV n r) [] = l.foldl (fun acc r => acc ++ extV n r) [] := fun _ => rfl
      rw [ha]
      refine b_par (P1 := Ls (((stV n i).1 ++ (stV n i).2.flatMap (extV n)).map tupP)) (P2 := Ls (((stV n i).2.flatMap (extV n)).map tupP)) (fun l => ps_par (i := 1) (j := 2) rfl nd rfl rfl (by decide) rfl rfl (uA_pa l) (by rfl)) (a_2 (TyE.eq (e_op (r := rCat) (fun _ => op_cat) (vr 1) (vr 3) (o_cat (by have := lk.l1; have := lk.ln; rw [List.length_map, List.length_map, sizeLine_eq]; omega))) (by rw [← List.map_append])) (vr 3)) (b_nil (.cons .rfl (.cons .rfl (.cons .rfl (.cons .any (.cons .any (.cons .any .nil)))))))
  · have lk := look_at h hi
    have : (stV n i).2 ≠ [] := fun z => by rw [z] at ht; simp at ht
    have := lk.go this
    exact ⟨this, by omega⟩
  · have lk := look_at h hi
    have : (stV n i).2 = [] := by simpa using ht
    rw [← lk.st this]
    exact b_ret (vr 1) OwnAt.none
end
end Tf
end
section
/-! Losses that are moved, told twice, left out. -/
namespace Tf
section
variable {L L' : Nat → Nat → Int} {n : Nat} {m : Nat → Int} {D D' : Nat × Nat → Int} {g : Rat} {p : Nat → Rat}
theorem Pot.mono {g' : Rat} (h : Pot L n g p) (hg : g ≤ g') : Pot L n g' p := fun i j hi hj hne => by
  have := h i j hi hj hne
  grind
theorem some_iff {L1 L2 : Nat → Nat → Int} {n1 n2 : Nat} (h : (∃ p, Pot L1 n1 0 p) ↔ ∃ p, Pot L2 n2 0 p) : (fwV L1 n1).isSome = (fwV L2 n2).isSome := by
  have h1 := clo_pot (L := L1) (n := n1)
  have h2 := clo_pot (L := L2) (n := n2)
  cases e1 : fwV L1 n1 with
  | some s1 =>
    cases e2 : fwV L2 n2 with
    | some s2 => rfl
    | none =>
      have := h2.mpr (h.mp (h1.mp ⟨s1, e1⟩))
      obtain ⟨s, hs⟩ := this
      rw [e2] at hs; cases hs
  | none =>
    cases e2 : fwV L2 n2 with
    | none => rfl
    | some s2 =>
      have := h1.mpr (h.mpr (h2.mp ⟨s2, e2⟩))
      obtain ⟨s, hs⟩ := this
      rw [e1] at hs; cases hs
/-! ### moved -/
structure Shf (L L' : Nat → Nat → Int) (n : Nat) (m : Nat → Int) : Prop where
  eq : ∀ i j, i < n → j < n → L' i j = L i j + m i - m j
theorem Shf.symm (h : Shf L L' n m) : Shf L' L n fun i => - m i := ⟨fun i j hi hj => by have := h.eq i j hi hj; omega⟩
theorem Shf.rat (h : Shf L L' n m) {i j : Nat} (hi : i < n) (hj : j < n) : (L' i j : Rat) = (L i j : Rat) + (m i : Rat) - (m j : Rat) := by
  rw [h.eq i j hi hj, Rat.intCast_sub, Rat.intCast_add]
theorem Shf.pot (h : Shf L L' n m) (hp : Pot L n g p) : Pot L' n g fun i => p i + (m i : Rat) := fun i j hi hj hne => by
  have h1 := hp i j hi hj hne
  have h2 := h.rat hi hj
  show p i + (m i : Rat) - (p j + (m j : Rat)) ≤ _
  grind
theorem Shf.some (h : Shf L L' n m) : (fwV L n).isSome = (fwV L' n).isSome :=
  some_iff ⟨fun ⟨p, hp⟩ => ⟨_, h.pot hp⟩, fun ⟨p, hp⟩ => ⟨_, h.symm.pot hp⟩⟩
theorem Shf.lg (h : Shf L L' n m) (h2 : 2 ≤ n) : lgV L n = lgV L' n := by
  obtain ⟨p, hp⟩ := karp_pot (L := L) h2
  obtain ⟨q, hq⟩ := karp_pot (L := L') h2
  exact Rat.le_antisymm (karp_least h2 (h.symm.pot hq)) (karp_least h2 (h.pot hp))
theorem Shf.clo (h : Shf L L' n m) (c : Clo L n D) : Clo L' n fun p => D p + m p.1 - m p.2 := by
  refine ⟨fun i hi => ?_, fun i j hi hj hne => ?_, fun i j k hi hj hk => ?_, fun p hp i j hi hj => ?_⟩
  · have := c.diag i hi
    show D (i, i) + m i - m i = 0
    omega
  · have h1 := c.le i j hi hj hne
    have h2 := h.eq i j hi hj
    show D (i, j) + m i - m j ≤ _
    omega
  · have := c.tri i j k hi hj hk
    show D (i, j) + m i - m j ≤ (D (i, k) + m i - m k) + (D (k, j) + m k - m j)
    omega
  · have := c.up _ (h.symm.pot hp) i j hi hj
    have this : p i + ((- m i : Int) : Rat) - (p j + ((- m j : Int) : Rat)) ≤ (D (i, j) : Rat) := this
    show p i - p j ≤ ((D (i, j) + m i - m j : Int) : Rat)
    rw [Rat.intCast_neg, Rat.intCast_neg] at this
    rw [Rat.intCast_sub, Rat.intCast_add]
    grind
theorem Shf.sum (h : Shf L L' n m) {s s' : FwSt} (hs : fwV L n = Option.some s) (hs' : fwV L' n = Option.some s') {i j : Nat} (hi : i < n) (hj : j < n) : s'.1 (i, j) = s.1 (i, j) + m i - m j :=
  (fw_clo hs').uniq (h.clo (fw_clo hs)) i j hi hj
/-! ### told twice -/
def twI (n a i : Nat) : Nat := if i = n then a else i
structure Twn (L L' : Nat → Nat → Int) (n a : Nat) : Prop where
  an : a < n
  z : ∀ k, L k k = 0
  eq : ∀ i j, i < n + 1 → j < n + 1 → L' i j = L (twI n a i) (twI n a j)
variable {a : Nat}
theorem twI_lt (ha : a < n) {i : Nat} (hi : i < n + 1) : twI n a i < n := by
  unfold twI
  split <;> omega
theorem twI_id {i : Nat} (hi : i < n) : twI n a i = i := if_neg (by omega)
theorem twI_n : twI n a n = a := if_pos rfl
theorem Twn.pot (h : Twn L L' n a) (hg : 0 ≤ g) (hp : Pot L n g p) : Pot L' (n + 1) g fun i => p (twI n a i) := fun i j hi hj hne => by
  have e := h.eq i j hi hj
  by_cases c : twI n a i = twI n a j
  · rw [e, c, h.z]
    have : ((0 : Int) : Rat) = 0 := rfl
    grind
  · have := hp _ _ (twI_lt h.an hi) (twI_lt h.an hj) c
    rw [e]
    exact this
theorem Twn.back (h : Twn L L' n a) (hp : Pot L' (n + 1) g p) : Pot L n g p := fun i j hi hj hne => by
  have := hp i j (by omega) (by omega) hne
  rwa [h.eq i j (by omega) (by omega), twI_id hi, twI_id hj] at this
theorem Twn.two (h : Twn L L' n a) (hp : Pot L' (n + 1) g p) : p a - p n ≤ g ∧ p n - p a ≤ g := by
  have an := h.an
  have h1 := hp a n (by omega) (by omega) (by omega)
  have h2 := hp n a (by omega) (by omega) (by omega)
  rw [h.eq a n (by omega) (by omega), twI_id an, twI_n, h.z] at h1
  rw [h.eq n a (by omega) (by omega), twI_id an, twI_n, h.z] at h2
  have : ((0 : Int) : Rat) = 0 := rfl
  constructor <;> grind
theorem Twn.some (h : Twn L L' n a) : (fwV L n).isSome = (fwV L' (n + 1)).isSome :=
  some_iff ⟨fun ⟨p, hp⟩ => ⟨_, h.pot Rat.le_refl hp⟩, fun ⟨p, hp⟩ => ⟨p, h.back hp⟩⟩
theorem Twn.lg0 (h : Twn L L' n a) : 0 ≤ lgV L' (n + 1) := by
  have an := h.an
  obtain ⟨q, hq⟩ := karp_pot (L := L') (n := n + 1) (by omega)
  obtain ⟨h1, h2⟩ := h.two hq
  grind
/-- the least gain with a twin -/
theorem Twn.lg (h : Twn L L' n a) (h2 : 2 ≤ n) : lgV L' (n + 1) = gmaxL [0, lgV L n] := by
  have an := h.an
  obtain ⟨m1, m2⟩ := gmaxL_spec (l := [0, lgV L n]) (fun z => nomatch z)
  have g0 := m2 0 List.mem_cons_self
  have g1 := m2 (lgV L n) (List.mem_cons_of_mem _ List.mem_cons_self)
  obtain ⟨p, hp⟩ := karp_pot (L := L) h2
  obtain ⟨q, hq⟩ := karp_pot (L := L') (n := n + 1) (by omega)
  refine Rat.le_antisymm (karp_least (by omega) (h.pot g0 (hp.mono g1))) ?_
  have k1 := karp_least h2 (h.back hq)
  have k0 := h.lg0
  rcases List.mem_cons.mp m1 with e | e
  · rw [e]; exact k0
  · rw [List.mem_singleton.mp e]; exact k1
theorem Twn.lg1 (h : Twn L L' 1 a) : lgV L' 2 = gmaxL [0] := by
  have hp : Pot L 1 0 fun _ => 0 := fun i j hi hj hne => absurd (by omega : i = j) hne
  have e : gmaxL [0] = 0 := by
    have := (gmaxL_spec (l := [(0 : Rat)]) (fun z => nomatch z)).1
    exact List.mem_singleton.mp this
  rw [e]
  exact Rat.le_antisymm (karp_least (by decide) (h.pot Rat.le_refl hp)) h.lg0
theorem Twn.clo (h : Twn L L' n a) (c : Clo L n D) : Clo L' (n + 1) fun p => D (twI n a p.1, twI n a p.2) := by
  refine ⟨fun i hi => c.diag _ (twI_lt h.an hi), fun i j hi hj hne => ?_, fun i j k hi hj hk => c.tri _ _ _ (twI_lt h.an hi) (twI_lt h.an hj) (twI_lt h.an hk), fun p hp i j hi hj => ?_⟩
  · show D (twI n a i, twI n a j) ≤ _
    rw [h.eq i j hi hj]
    by_cases e : twI n a i = twI n a j
    · rw [e, c.diag _ (twI_lt h.an hj), h.z]; exact Int.le_refl _
    · exact c.le _ _ (twI_lt h.an hi) (twI_lt h.an hj) e
  · obtain ⟨h1, h2⟩ := h.two hp
    have hpe : p n = p a := by grind
    have ht : ∀ i, i < n + 1 → p i = p (twI n a i) := fun i hi => by
      by_cases e : i = n
      · rw [e, twI_n, hpe]
      · rw [twI_id (by omega)]
    rw [ht i hi, ht j hj]
    exact c.up p (h.back hp) _ _ (twI_lt h.an hi) (twI_lt h.an hj)
theorem Twn.sum (h : Twn L L' n a) {s s' : FwSt} (hs : fwV L n = Option.some s) (hs' : fwV L' (n + 1) = Option.some s') {i j : Nat} (hi : i < n + 1) (hj : j < n + 1) : s'.1 (i, j) = s.1 (twI n a i, twI n a j) :=
  (fw_clo hs').uniq (h.clo (fw_clo hs)) i j hi hj
/-! ### one left out -/
def lvI (a i : Nat) : Nat := if i < a then i else i + 1
structure Lvn (L L' : Nat → Nat → Int) (n a : Nat) : Prop where
  an : a < n + 1
  eq : ∀ i j, i < n → j < n → L' i j = L (lvI a i) (lvI a j)
theorem lvI_lt {i : Nat} (hi : i < n) : lvI a i < n + 1 := by
  unfold lvI
  split <;> omega
theorem lvI_inj {i j : Nat} (h : lvI a i = lvI a j) : i = j := by
  unfold lvI at h
  split at h <;> split at h <;> omega
theorem Lvn.pot (h : Lvn L L' n a) (hp : Pot L (n + 1) g p) : Pot L' n g fun i => p (lvI a i) := fun i j hi hj hne => by
  rw [h.eq i j hi hj]
  exact hp _ _ (lvI_lt hi) (lvI_lt hj) fun z => hne (lvI_inj z)
theorem Lvn.lg (h : Lvn L L' n a) (h2 : 2 ≤ n) : lgV L' n ≤ lgV L (n + 1) := by
  obtain ⟨p, hp⟩ := karp_pot (L := L) (n := n + 1) (by omega)
  exact karp_least h2 (h.pot hp)
theorem Lvn.some (h : Lvn L L' n a) {s : FwSt} (hs : fwV L (n + 1) = Option.some s) : ∃ s', fwV L' n = Option.some s' := by
  obtain ⟨p, hp⟩ := clo_pot.mp ⟨s, hs⟩
  exact clo_pot.mpr ⟨_, h.pot hp⟩
theorem Lvn.sum (h : Lvn L L' n a) {s s' : FwSt} (hs : fwV L (n + 1) = Option.some s) (hs' : fwV L' n = Option.some s') {i j : Nat} (hi : i < n) (hj : j < n) : s.1 (lvI a i, lvI a j) ≤ s'.1 (i, j) := by
  have c := fw_clo hs
  have h1 := (fw_clo hs').up _ (h.pot (c.pot (lvI_lt (a := a) hj))) i j hi hj
  have h1 : (s.1 (lvI a i, lvI a j) : Rat) - (s.1 (lvI a j, lvI a j) : Rat) ≤ (s'.1 (i, j) : Rat) := h1
  rw [c.diag _ (lvI_lt hj)] at h1
  have e : ((0 : Int) : Rat) = 0 := rfl
  refine Rat.intCast_le_intCast.mp ?_
  grind
end
end Tf
end
section
/-! Tables, their losses. -/
namespace Tf
open Ty
structure Tb (rows : List (List Int)) : Prop where
  rc : Rc rows
  bd : ∀ r ∈ rows, ∀ x ∈ r, x.natAbs ≤ 2 ^ 80
theorem getD_mem {α : Type} {l : List α} {i : Nat} {d : α} (h : i < l.length) : l.getD i d ∈ l := by
  rw [List.getD_eq_getElem?_getD, List.getElem?_eq_getElem h]
  exact List.getElem_mem h
theorem getD_out {α : Type} {l : List α} {i : Nat} {d : α} (h : ¬ i < l.length) : l.getD i d = d := by
  rw [List.getD_eq_getElem?_getD, List.getElem?_eq_none (by omega)]
  rfl
theorem Tb.cell {rows : List (List Int)} (h : Tb rows) (k o : Nat) : (cellV rows k o).natAbs ≤ 2 ^ 80 := by
  unfold cellV
  by_cases hk : k < rows.length
  · by_cases ho : o < (rows.getD k []).length
    · exact h.bd _ (getD_mem hk) _ (getD_mem ho)
    · rw [getD_out ho]; exact Nat.zero_le _
  · rw [getD_out hk]
    exact Nat.zero_le _
theorem Tb.vd {rows : List (List Int)} {t : List Nat} (h : Tb rows) (u : okU rows t) : Vd rows t := ⟨h.rc, u.1, u.2, h.cell⟩
theorem Tb.wd {rows : List (List Int)} (h : Tb rows) : sWD rows := ⟨h.rc, fun r hr x hx => Nat.lt_of_le_of_lt (h.bd r hr x hx) (Nat.pow_lt_pow_right (by decide) (by decide))⟩
theorem Tb.ri {rows : List (List Int)} {t : List Nat} (h : Tb rows) (u : okU rows t) : sRI t := ⟨by rw [u.1]; exact h.rc.n1, by rw [u.1]; exact h.rc.n6, fun o ho => Nat.lt_of_lt_of_le (u.2 o ho) h.rc.m6⟩
theorem okT.tb {rows : List (List Int)} (h : okT rows) : Tb rows := ⟨⟨h.n1, by have := h.n4; omega, h.eq, h.m1, by have := h.m4; omega⟩, fun r hr x hx => Nat.le_trans (h.bd r hr x hx) (by decide)⟩
/-- a table by its lengths -/
theorem rc_of {rows : List (List Int)} {n o : Nat} (hn : rows.length = n) (h1 : 1 ≤ n) (h6 : n ≤ 6) (ho : ∀ r ∈ rows, r.length = o) (o1 : 1 ≤ o) (o6 : o ≤ 6) : Rc rows ∧ (rows.headD []).length = o := by
  have hh : (rows.headD []).length = o := by
    cases e : rows with
    | nil => rw [e] at hn; simp at hn; omega
    | cons a r => exact ho a (by rw [e]; exact List.mem_cons_self)
  exact ⟨⟨by omega, by omega, fun r hr => by rw [hh]; exact ho r hr, by omega, by omega⟩, hh⟩
theorem vd_t {rows : List (List Int)} {t : List Nat} (u : okU rows t) {k : Nat} (hk : k < rows.length) : t.getD k 0 < (rows.headD []).length := u.2 _ (getD_mem (by rw [u.1]; exact hk))
theorem getD_map' {α β : Type} {l : List α} {f : α → β} {i : Nat} {d : α} {e : β} (h : i < l.length) : (l.map f).getD i e = f (l.getD i d) := by
  rw [List.getD_eq_getElem?_getD, List.getElem?_map, List.getElem?_eq_getElem h, List.getD_eq_getElem?_getD, List.getElem?_eq_getElem h]
  rfl
theorem getD_rng {β : Type} {n i : Nat} {f : Nat → β} {e : β} (h : i < n) : ((List.range n).map f).getD i e = f i := by
  rw [List.getD_eq_getElem?_getD, List.getElem?_map, List.getElem?_range h]
  rfl
/-! ### a number for each outcome -/
def liftR (more : List Int) (r : List Int) : List Int := (List.range r.length).map fun i => r.getD i 0 + more.getD i 0
def liftV (rows : List (List Int)) (more : List Int) : List (List Int) := rows.map (liftR more)
theorem lift_len {rows : List (List Int)} {more : List Int} : (liftV rows more).length = rows.length := List.length_map _
theorem liftR_len {more r : List Int} : (liftR more r).length = r.length := by unfold liftR; rw [List.length_map, List.length_range]
theorem lift_head {rows : List (List Int)} {more : List Int} : ((liftV rows more).headD []).length = (rows.headD []).length := by
  cases rows with
  | nil => rfl
  | cons a r => exact liftR_len
theorem lift_tb {rows : List (List Int)} {more : List Int} (h : okT rows) (hm : ∀ x ∈ more, x.natAbs ≤ 6) : Tb (liftV rows more) := by
  refine ⟨⟨by rw [lift_len]; exact h.n1, by rw [lift_len]; have := h.n4; omega, fun r hr => ?_, by rw [lift_head]; exact h.m1, by rw [lift_head]; have := h.m4; omega⟩, fun r hr x hx => ?_⟩
  · obtain ⟨r0, h0, rfl⟩ := List.mem_map.mp hr
    rw [liftR_len, lift_head]; exact h.eq r0 h0
  · obtain ⟨r0, h0, rfl⟩ := List.mem_map.mp hr
    obtain ⟨i, hi, rfl⟩ := List.mem_map.mp hx
    have hi := List.mem_range.mp hi
    have h1 := h.bd r0 h0 _ (getD_mem (d := 0) hi)
    have h2 : (more.getD i 0).natAbs ≤ 6 := by
      by_cases c : i < more.length
      · exact hm _ (getD_mem c)
      · rw [getD_out c]; decide
    have h3 : (2 : Nat) ^ 70 + 6 ≤ 2 ^ 80 := by decide
    omega
theorem lift_u {rows : List (List Int)} {more : List Int} {t : List Nat} (u : okU rows t) : okU (liftV rows more) t := ⟨by rw [lift_len]; exact u.1, fun o ho => by rw [lift_head]; exact u.2 o ho⟩
theorem lift_cell {rows : List (List Int)} {more : List Int} (h : okT rows) {k o : Nat} (hk : k < rows.length) (ho : o < (rows.headD []).length) : cellV (liftV rows more) k o = cellV rows k o + more.getD o 0 := by
  unfold cellV liftV
  rw [getD_map' (d := []) hk]
  have e : (rows.getD k []).length = (rows.headD []).length := h.eq _ (getD_mem hk)
  unfold liftR
  rw [getD_rng (by rw [e]; exact ho)]
def mvI (t : List Nat) (more : List Int) (i : Nat) : Int := more.getD (t.getD i 0) 0
theorem lift_shf {rows : List (List Int)} {more : List Int} {t : List Nat} (h : okT rows) (u : okU rows t) : Shf (lossV rows t) (lossV (liftV rows more) t) rows.length (mvI t more) := ⟨fun i j hi hj => by
  unfold lossV mvI
  rw [lift_cell h hi (vd_t u hi), lift_cell h hi (vd_t u hj)]
  omega⟩
/-! ### an outcome more -/
theorem wide_tb {rows wide : List (List Int)} (h : okT rows) (hw : PW (fun (r : List Int) (r' : List Int) => ∃ x : Int, x.natAbs ≤ 9 ∧ r' = r ++ [x]) rows wide) : Tb wide ∧ (wide.headD []).length = (rows.headD []).length + 1 := by
  have hl := hw.len
  have h4 := h.n4
  have m4 := h.m4
  obtain ⟨a, b⟩ := rc_of (rows := wide) (n := rows.length) (o := (rows.headD []).length + 1) hl h.n1 (by omega) (fun r' hr' => by
    obtain ⟨r, hr, x, _, rfl⟩ := hw.mem r' hr'
    rw [List.length_append, h.eq r hr]; rfl) (by omega) (by omega)
  refine ⟨⟨a, fun r' hr' x hx => ?_⟩, b⟩
  obtain ⟨r, hr, y, hy, rfl⟩ := hw.mem r' hr'
  have h3 : (2 : Nat) ^ 70 + 9 ≤ 2 ^ 80 := by decide
  rcases List.mem_append.mp hx with h' | h'
  · have := h.bd r hr x h'
    omega
  · rw [List.mem_singleton.mp h']; omega
theorem wide_cell {rows wide : List (List Int)} (h : okT rows) (hw : PW (fun (r : List Int) (r' : List Int) => ∃ x : Int, x.natAbs ≤ 9 ∧ r' = r ++ [x]) rows wide) {k o : Nat} (hk : k < rows.length) (ho : o < (rows.headD []).length) : cellV wide k o = cellV rows k o := by
  obtain ⟨x, _, e⟩ := hw.get k [] [] hk
  unfold cellV
  rw [e, List.getD_eq_getElem?_getD, List.getElem?_append_left (by rw [h.eq _ (getD_mem hk)]; exact ho), ← List.getD_eq_getElem?_getD]
theorem wide_shf {rows wide : List (List Int)} {t : List Nat} (h : okT rows) (u : okU rows t) (hw : PW (fun (r : List Int) (r' : List Int) => ∃ x : Int, x.natAbs ≤ 9 ∧ r' = r ++ [x]) rows wide) : Shf (lossV rows t) (lossV wide t) rows.length fun _ => 0 := ⟨fun i j hi hj => by
  unfold lossV
  rw [wide_cell h hw hi (vd_t u hi), wide_cell h hw hi (vd_t u hj)]
  omega⟩
/-! ### a kind told twice -/
theorem tw_getD {α : Type} {l : List α} {a i : Nat} {d : α} (ha : a < l.length) (hi : i < l.length + 1) : (l ++ [l.getD a d]).getD i d = l.getD (twI l.length a i) d := by
  by_cases e : i = l.length
  · rw [e, twI_n, List.getD_eq_getElem?_getD, List.getElem?_append_right (Nat.le_refl _), Nat.sub_self]; rfl
  · rw [twI_id (by omega), List.getD_eq_getElem?_getD, List.getElem?_append_left (by omega), ← List.getD_eq_getElem?_getD]
theorem tw_tb {rows : List (List Int)} {a : Nat} (h : okT rows) (ha : a < rows.length) : Tb (rows ++ [rows.getD a []]) ∧ ((rows ++ [rows.getD a []]).headD []).length = (rows.headD []).length := by
  have h4 := h.n4
  have m4 := h.m4
  have m1 := h.m1
  obtain ⟨x, y⟩ := rc_of (rows := rows ++ [rows.getD a []]) (n := rows.length + 1) (o := (rows.headD []).length) (by rw [List.length_append]; rfl) (by omega) (by omega) (fun r hr => by
    rcases List.mem_append.mp hr with h' | h'
    · exact h.eq r h'
    · rw [List.mem_singleton.mp h']; exact h.eq _ (getD_mem ha)) m1 (by omega)
  refine ⟨⟨x, fun r hr z hz => ?_⟩, y⟩
  have h3 : (2 : Nat) ^ 70 ≤ 2 ^ 80 := by decide
  have hr' : r ∈ rows := by
    rcases List.mem_append.mp hr with h' | h'
    · exact h'
    · rw [List.mem_singleton.mp h']; exact getD_mem ha
  exact Nat.le_trans (h.bd r hr' z hz) h3
theorem tw_u {rows : List (List Int)} {t : List Nat} {a : Nat} (h : okT rows) (u : okU rows t) (ha : a < rows.length) : okU (rows ++ [rows.getD a []]) (t ++ [t.getD a 0]) := by
  refine ⟨by rw [List.length_append, List.length_append, u.1]; rfl, fun o ho => ?_⟩
  rw [(tw_tb h ha).2]
  rcases List.mem_append.mp ho with h' | h'
  · exact u.2 o h'
  · rw [List.mem_singleton.mp h']; exact vd_t u ha
theorem tw_twn {rows : List (List Int)} {t : List Nat} {a : Nat} (u : okU rows t) (ha : a < rows.length) : Twn (lossV rows t) (lossV (rows ++ [rows.getD a []]) (t ++ [t.getD a 0])) rows.length a := by
  refine ⟨ha, fun k => by unfold lossV; omega, fun i j hi hj => ?_⟩
  unfold lossV cellV
  rw [tw_getD ha hi, tw_getD (by rw [u.1]; exact ha) (by rw [u.1]; exact hi), tw_getD (by rw [u.1]; exact ha) (by rw [u.1]; exact hj), u.1]
/-! ### a kind left out -/
theorem lv_getD {α : Type} {l : List α} {a i : Nat} {d : α} (ha : a < l.length) : (l.take a ++ l.drop (a + 1)).getD i d = l.getD (lvI a i) d := by
  have lt : (l.take a).length = a := by rw [List.length_take]; omega
  rw [List.getD_eq_getElem?_getD, List.getD_eq_getElem?_getD]
  unfold lvI
  by_cases c : i < a
  · rw [if_pos c, List.getElem?_append_left (by rw [lt]; exact c), List.getElem?_take_of_lt c]
  · rw [if_neg c, List.getElem?_append_right (by rw [lt]; omega), lt, List.getElem?_drop]
    congr 2
    omega
theorem lv_len {α : Type} {l : List α} {a : Nat} (ha : a < l.length) : (l.take a ++ l.drop (a + 1)).length = l.length - 1 := by
  rw [List.length_append, List.length_take, List.length_drop]; omega
theorem lv_mem {α : Type} {l : List α} {a : Nat} {x : α} (h : x ∈ l.take a ++ l.drop (a + 1)) : x ∈ l := by
  rcases List.mem_append.mp h with h | h
  · exact List.mem_of_mem_take h
  · exact List.mem_of_mem_drop h
theorem lv_tb {rows : List (List Int)} {a : Nat} (h : okT rows) (ha : a < rows.length) (h3 : 3 ≤ rows.length) : Tb (rows.take a ++ rows.drop (a + 1)) ∧ ((rows.take a ++ rows.drop (a + 1)).headD []).length = (rows.headD []).length := by
  have h4 := h.n4
  have m4 := h.m4
  have m1 := h.m1
  obtain ⟨x, y⟩ := rc_of (rows := rows.take a ++ rows.drop (a + 1)) (n := rows.length - 1) (o := (rows.headD []).length) (lv_len ha) (by omega) (by omega) (fun r hr => h.eq r (lv_mem hr)) m1 (by omega)
  exact ⟨⟨x, fun r hr z hz => Nat.le_trans (h.bd r (lv_mem hr) z hz) (by decide)⟩, y⟩
theorem lv_u {rows : List (List Int)} {t : List Nat} {a : Nat} (h : okT rows) (u : okU rows t) (ha : a < rows.length) (h3 : 3 ≤ rows.length) : okU (rows.take a ++ rows.drop (a + 1)) (t.take a ++ t.drop (a + 1)) := by
  refine ⟨by rw [lv_len ha, lv_len (by rw [u.1]; exact ha), u.1], fun o ho => ?_⟩
  rw [(lv_tb h ha h3).2]
  exact u.2 o (lv_mem ho)
theorem lv_lvn {rows : List (List Int)} {t : List Nat} {a n : Nat} (u : okU rows t) (ha : a < rows.length) (hn : rows.length = n + 1) : Lvn (lossV rows t) (lossV (rows.take a ++ rows.drop (a + 1)) (t.take a ++ t.drop (a + 1))) n a := by
  refine ⟨by omega, fun i j hi hj => ?_⟩
  unfold lossV cellV
  rw [lv_getD ha, lv_getD (by rw [u.1]; exact ha), lv_getD (by rw [u.1]; exact ha)]
end Tf
end
section
/-! Gains, fees, rings of tables that belong together. -/
namespace Tf
open Ty
section
variable {rows rows' : List (List Int)} {t t' : List Nat} {qs qs' : List Rat}
theorem fold_congr : ∀ (ps : List (Nat × Nat)) (s : Option (Nat × Nat)), (∀ p ∈ ps, gainV rows t qs p = gainV rows' t' qs' p) → (∀ b, s = some b → gainV rows t qs b = gainV rows' t' qs' b) → ps.foldl (bestStep rows t qs) s = ps.foldl (bestStep rows' t' qs') s
  | [], _, _, _ => rfl
  | p :: ps, s, h, hs => by
    have hp := h p List.mem_cons_self
    have e : bestStep rows t qs s p = bestStep rows' t' qs' s p := by
      cases s with
      | none => rfl
      | some b =>
        show (if gainV rows t qs b < gainV rows t qs p then some p else some b) = if gainV rows' t' qs' b < gainV rows' t' qs' p then some p else some b
        rw [hs b rfl, hp]
    rw [List.foldl_cons, List.foldl_cons, e]
    refine fold_congr ps _ (fun x hx => h x (List.mem_cons_of_mem _ hx)) fun b hb => ?_
    cases s with
    | none =>
      have hb : some p = some b := hb
      cases hb
      exact hp
    | some c =>
      have hb : (if gainV rows' t' qs' c < gainV rows' t' qs' p then some p else some c) = some b := hb
      split at hb
      · cases hb; exact hp
      · cases hb; exact hs _ rfl
theorem best_congr (hl : rows.length = rows'.length) (h : ∀ p ∈ liesV rows.length, gainV rows t qs p = gainV rows' t' qs' p) : bestV rows t qs = bestV rows' t' qs' := by
  unfold bestV
  rw [← hl]
  exact fold_congr _ none h fun b z => nomatch z
theorem mg_at (h2 : 2 ≤ rows.length) : ∃ b ∈ liesV rows.length, mgV ((rows, t), qs) = gainV rows t qs b ∧ bestV rows t qs = some b := by
  obtain ⟨b, hb⟩ := bl_two (t := t) (qs := qs) h2
  refine ⟨b, (bl_some hb).1, ?_, hb⟩
  unfold mgV
  show (match bestV rows t qs with | none => _ | some b => _) = _
  rw [hb]
theorem mg_le {g : Rat} (h2 : 2 ≤ rows.length) (hp : Pot (lossV rows t) rows.length g fun i => qs.getD i 0) : mgV ((rows, t), qs) ≤ g := by
  obtain ⟨b, hb, e, _⟩ := mg_at (t := t) (qs := qs) h2
  rw [e]
  have hb := mem_lies.mp hb
  have := hp b.1 b.2 hb.1 hb.2.1 hb.2.2
  unfold gainV
  grind
theorem mg_pot (h2 : 2 ≤ rows.length) : Pot (lossV rows t) rows.length (mgV ((rows, t), qs)) fun i => qs.getD i 0 := fun i j hi hj hne => by
  obtain ⟨b, hb, e, eb⟩ := mg_at (t := t) (qs := qs) h2
  have := (bl_some eb).2 (i, j) (mem_lies.mpr ⟨hi, hj, hne⟩)
  rw [← e] at this
  unfold gainV at this
  have this : qs.getD i 0 - qs.getD j 0 - (lossV rows t i j : Rat) ≤ mgV ((rows, t), qs) := this
  show qs.getD i 0 - qs.getD j 0 ≤ _
  grind
theorem mg_eq (h2 : 2 ≤ rows.length) (hp : Pot (lossV rows t) rows.length (lgV (lossV rows t) rows.length) fun i => qs.getD i 0) : mgV ((rows, t), qs) = lgV (lossV rows t) rows.length :=
  Rat.le_antisymm (mg_le h2 hp) (karp_least h2 (mg_pot h2))
theorem isT_of (hp : Pot (lossV rows t) rows.length 0 fun i => qs.getD i 0) : isTV ((rows, t), qs) = true := by
  unfold isTV
  show (match bestV rows t qs with | none => true | some b => _) = true
  cases e : bestV rows t qs with
  | none => rfl
  | some b =>
    have hb := mem_lies.mp (bl_some e).1
    have h1 := hp b.1 b.2 hb.1 hb.2.1 hb.2.2
    have : ¬ (0 : Rat) < gainV rows t qs b := by
      unfold gainV
      have h1 : qs.getD b.1 0 - qs.getD b.2 0 ≤ (lossV rows t b.1 b.2 : Rat) + 0 := h1
      refine Rat.not_lt.mpr ?_
      grind
    show (!decide ((0 : Rat) < gainV rows t qs b)) = true
    rw [decide_eq_false this]; rfl
theorem Pot.shf0 {L L' : Nat → Nat → Int} {n : Nat} {g : Rat} {p : Nat → Rat} (h : Shf L L' n fun _ => 0) (hp : Pot L n g p) : Pot L' n g p := fun i j hi hj hne => by
  have := hp i j hi hj hne
  have e := h.eq i j hi hj
  have e : L' i j = L i j := by omega
  rw [e]; exact this
/-! ### moved -/
theorem gain_shf {n : Nat} {m : Nat → Int} (h : Shf (lossV rows t) (lossV rows' t') n m) (hq : ∀ k, k < n → qs'.getD k 0 = qs.getD k 0 + (m k : Rat)) {p : Nat × Nat} (hp : p ∈ liesV n) : gainV rows t qs p = gainV rows' t' qs' p := by
  have hp := mem_lies.mp hp
  have e := h.rat hp.1 hp.2.1
  unfold gainV
  rw [hq _ hp.1, hq _ hp.2.1, e]
  grind
theorem gf_shf {L L' : Nat → Nat → Int} {n k : Nat} {m : Nat → Int} {s s' : FwSt} (h : Shf L L' n m) (hs : fwV L n = some s) (hs' : fwV L' n = some s') (hk : k < n) : gfV n s'.1 k (m k : Rat) = (List.range n).map fun o => (gfV n s.1 k 0).getD o 0 + (m o : Rat) := by
  unfold gfV
  apply List.map_congr_left
  intro o ho
  have ho := List.mem_range.mp ho
  rw [getD_rng ho, h.sum hs hs' ho hk, Rat.intCast_sub, Rat.intCast_add]
  grind
theorem lf_shf0 {L L' : Nat → Nat → Int} {n k : Nat} {a : Rat} {s s' : FwSt} (h : Shf L L' n fun _ => 0) (hs : fwV L n = some s) (hs' : fwV L' n = some s') (hk : k < n) : lfV n s'.1 k a = lfV n s.1 k a := by
  unfold lfV
  apply List.map_congr_left
  intro o ho
  have ho := List.mem_range.mp ho
  have e := h.sum hs hs' hk ho
  have e : s'.1 (k, o) = s.1 (k, o) := by omega
  rw [e]
/-! ### twins -/
theorem gf_twn {L L' : Nat → Nat → Int} {n a : Nat} {s s' : FwSt} (h : Twn L L' n a) (hs : fwV L n = some s) (hs' : fwV L' (n + 1) = some s') : gfV (n + 1) s'.1 0 0 = gfV n s.1 0 0 ++ [(gfV n s.1 0 0).getD a 0] := by
  have an := h.an
  have e0 : twI n a 0 = 0 := twI_id (by omega)
  unfold gfV
  rw [List.range_succ, List.map_append, getD_rng an]
  congr 1
  · apply List.map_congr_left
    intro o ho
    have ho := List.mem_range.mp ho
    rw [h.sum hs hs' (by omega) (by omega), e0, twI_id ho]
  · show [0 + (s'.1 (n, 0) : Rat)] = _
    rw [h.sum hs hs' (by omega) (by omega), e0, twI_n]
theorem lf_twn {L L' : Nat → Nat → Int} {n a : Nat} {s s' : FwSt} (h : Twn L L' n a) (hs : fwV L n = some s) (hs' : fwV L' (n + 1) = some s') : lfV (n + 1) s'.1 0 0 = lfV n s.1 0 0 ++ [(lfV n s.1 0 0).getD a 0] := by
  have an := h.an
  have e0 : twI n a 0 = 0 := twI_id (by omega)
  unfold lfV
  rw [List.range_succ, List.map_append, getD_rng an]
  congr 1
  · apply List.map_congr_left
    intro o ho
    have ho := List.mem_range.mp ho
    rw [h.sum hs hs' (by omega) (by omega), e0, twI_id ho]
  · show [0 - (s'.1 (0, n) : Rat)] = _
    rw [h.sum hs hs' (by omega) (by omega), e0, twI_n]
theorem io_twn {L L' : Nat → Nat → Int} {n a : Nat} {s s' : FwSt} (h : Twn L L' n a) (hs : fwV L n = some s) (hs' : fwV L' (n + 1) = some s') : ioV n s.1 = ioV (n + 1) s'.1 := by
  have an := h.an
  have c := fw_clo hs
  rw [Bool.eq_iff_iff]
  unfold ioV
  rw [List.all_eq_true, List.all_eq_true]
  constructor
  · intro hh p hp
    have hp := mem_lies.mp hp
    refine decide_eq_true ?_
    have e1 := h.sum hs hs' (i := p.1) (j := p.2) hp.1 hp.2.1
    have e2 := h.sum hs hs' (i := p.2) (j := p.1) hp.2.1 hp.1
    have e1 : s'.1 p = s.1 (twI n a p.1, twI n a p.2) := e1
    rw [e1, e2]
    by_cases c2 : twI n a p.1 = twI n a p.2
    · rw [c2, c.diag _ (twI_lt an hp.2.1)]; rfl
    · exact of_decide_eq_true (hh (twI n a p.1, twI n a p.2) (mem_lies.mpr ⟨twI_lt an hp.1, twI_lt an hp.2.1, c2⟩))
  · intro hh p hp
    have hp := mem_lies.mp hp
    have h1 := of_decide_eq_true (hh p (mem_lies.mpr ⟨by omega, by omega, hp.2.2⟩))
    have e1 := h.sum hs hs' (i := p.1) (j := p.2) (by omega) (by omega)
    have e2 := h.sum hs hs' (i := p.2) (j := p.1) (by omega) (by omega)
    rw [twI_id hp.1, twI_id hp.2.1] at e1
    rw [twI_id hp.1, twI_id hp.2.1] at e2
    have e1 : s'.1 p = s.1 p := e1
    refine decide_eq_true ?_
    rw [← e1, ← e2]
    exact h1
theorem sp_twn {L L' : Nat → Nat → Int} {n a : Nat} {s s' : FwSt} (h : Twn L L' n a) (hs : fwV L n = some s) (hs' : fwV L' (n + 1) = some s') : s'.1 (a, n) = 0 ∧ s'.1 (n, a) = 0 := by
  have an := h.an
  have c := fw_clo hs
  rw [h.sum hs hs' (by omega) (by omega), h.sum hs hs' (by omega) (by omega), twI_n, twI_id an]
  exact ⟨c.diag a an, c.diag a an⟩
/-! ### rings -/
theorem sum_tel (c : Nat → Int) : ∀ k, ((List.range k).map fun i => c i - c (i + 1)).sum = c 0 - c k
  | 0 => by simp
  | k + 1 => by
    rw [List.range_succ, List.map_append, List.sum_append, sum_tel c k, List.map_singleton, List.sum_singleton]
    omega
theorem sum_add2 (f g : Nat → Int) : ∀ l : List Nat, (l.map fun i => f i + g i).sum = (l.map f).sum + (l.map g).sum
  | [] => rfl
  | x :: l => by
    rw [List.map_cons, List.map_cons, List.map_cons, List.sum_cons, List.sum_cons, List.sum_cons, sum_add2 f g l]
    omega
theorem zipIdx_rng : ∀ (l : List Nat) (k : Nat), l.zipIdx k = (List.range l.length).map fun i => (l.getD i 0, k + i)
  | [], _ => rfl
  | x :: l, k => by
    rw [List.zipIdx_cons, zipIdx_rng l (k + 1), List.length_cons, List.range_succ_eq_map, List.map_cons, List.map_map]
    congr 1
    apply List.map_congr_left
    intro i _
    show (l.getD i 0, k + 1 + i) = ((x :: l).getD (i + 1) 0, k + (i + 1))
    rw [List.getD_cons_succ]
    congr 1
    omega
theorem ringV_eq (ring : List Nat) : ringV rows t ring = ((List.range ring.length).map fun i => lossV rows t (ring.getD i 0) (ring.getD ((i + 1) % ring.length) 0)).sum := by
  unfold ringV
  rw [zipIdx_rng, List.map_map]
  congr 1
  apply List.map_congr_left
  intro i _
  show lossV rows t (ring.getD i 0) (ring.getD ((0 + i + 1) % ring.length) 0) = _
  rw [Nat.zero_add]
theorem ring_shf {n : Nat} {m : Nat → Int} (h : Shf (lossV rows t) (lossV rows' t') n m) {ring : List Nat} (hr : ∀ k ∈ ring, k < n) : ringV rows t ring = ringV rows' t' ring := by
  cases e : ring.length with
  | zero =>
    have : ring = [] := List.length_eq_zero_iff.mp e
    rw [this]; rfl
  | succ k =>
    rw [ringV_eq, ringV_eq, e]
    let c : Nat → Int := fun i => m (ring.getD i 0)
    have hm : ∀ i, i < k + 1 → ring.getD i 0 < n := fun i hi => hr _ (getD_mem (by omega))
    have e1 : ((List.range (k + 1)).map fun i => lossV rows' t' (ring.getD i 0) (ring.getD ((i + 1) % (k + 1)) 0)) = (List.range (k + 1)).map fun i => lossV rows t (ring.getD i 0) (ring.getD ((i + 1) % (k + 1)) 0) + (c i - c ((i + 1) % (k + 1))) := by
      apply List.map_congr_left
      intro i hi
      have hi := List.mem_range.mp hi
      rw [h.eq _ _ (hm i hi) (hm _ (Nat.mod_lt _ (by omega)))]
      show _ + m _ - m _ = _ + (m _ - m _)
      omega
    rw [e1, sum_add2 (fun i => lossV rows t (ring.getD i 0) (ring.getD ((i + 1) % (k + 1)) 0)) fun i => c i - c ((i + 1) % (k + 1))]
    have e2 : ((List.range (k + 1)).map fun i => c i - c ((i + 1) % (k + 1))).sum = 0 := by
      rw [List.range_succ, List.map_append, List.sum_append, List.map_singleton, List.sum_singleton, Nat.mod_self]
      have e3 : ((List.range k).map fun i => c i - c ((i + 1) % (k + 1))) = (List.range k).map fun i => c i - c (i + 1) := by
        apply List.map_congr_left
        intro i hi
        have hi := List.mem_range.mp hi
        rw [Nat.mod_eq_of_lt (by omega)]
      rw [e3, sum_tel]
      omega
    rw [e2]
    omega
end
end Tf
end
section
/-! What the law's parts call. -/
namespace Ty
open PySem PySem.Spec PyProof.Rows L2
open Evl (Ex)
section
variable {ι : Type} {X : ι → Cx} {Ga Gb Gc : List Sl} {e t1 t2 : Expr} {es : List Expr} {Ps : List Pd} {pos p : Pos} {x : Str} {Pr : Program} {w : World} {K : PySem.W.Frag} {mg : Str → Option Value} {base : Heap} {j k kk : Nat} {D : Type} {A : D → List Pd} {S : D → Prop} {R : D → Pd} {P1 P2 : Pd} {ds : List V} {ks1 ks2 : List Nat}
/-- f(e, ..), the keywords left out -/
theorem e_gf0 (fam : Fam X Pr w K mg base j) (F : Gf Pr w K mg base k x (fun vs H Q E => SpD A S R (vs ++ ds) H Q E)) (d : D) (hg : ∀ i, Gl (X i) x) (ha : TyA X Ga (e :: es) Ps Gb) (hA : ∀ vs G, AllP Ps vs G → AllP (A d) (vs ++ ds) G) (hs : S d) (hk : k ≤ j := by decide) (hdb : (x == ("__debug__" : Str)) = false := by decide)
    (he : ∀ i, starEach (e :: es) (X i).env = (false, eval e (X i).env) :: starEach es (X i).env := by intro i; rfl) (hpl : ∀ i, (backTo pos (starEach es (X i).env)).any (·.1) = false := by intro i; rfl) :
    TyE X Ga (.Call (.Name x p) (e :: es) [] pos) (R d) Gb := fun q F' σ G H I Q kk =>
  ⟨_, fun i => pe_gf fam F hk i (hg i) (uA_pa i) hdb (he i) (hpl i), ha q F' σ G H I _ fun vs G1 H1 t1 I1 p1 => ⟨d, G1, hs, I1.sub, hA vs G1 p1, fun v G2 H2 t2 r => kk v G2 H2 (t1.trans t2.any) (I1.pure t2) r⟩⟩
/-- C(e, ..), arguments of which one is drawn -/
theorem e_mkX {C : Addr} {Fs : D → List (Str × Pd)} {Rx : Pd} (fam : Fam X Pr w K mg base j) (F : Mkf Pr w K mg base k C (spMk C A S Fs)) (hg : ∀ i, Gl (X i) x) (hm : mg x = some (.ref C)) (ha : TyA X Ga (e :: es) Ps Gb) (hA : ∀ vs G, AllP Ps vs G → ∃ d, S d ∧ AllP (A d) vs G ∧ ∀ v G', (In C (Fs d)).p v G' → Rx.p v G') (hk : k + 1 ≤ j := by decide) (hdb : (x == ("__debug__" : Str)) = false := by decide)
    (he : ∀ i, starEach (e :: es) (X i).env = (false, eval e (X i).env) :: starEach es (X i).env := by intro i; rfl) (hpl : ∀ i, (backTo pos (starEach es (X i).env)).any (·.1) = false := by intro i; rfl) :
    TyE X Ga (.Call (.Name x p) (e :: es) [] pos) Rx Gb := fun q F' σ G H I Q kk => by
  obtain ⟨g, Fn, M⟩ := F.ex
  refine ⟨StX.tMakeR C (spMk C A S Fs) E0 (uA X (e :: es)), fun i => StX.pe_makeR (by rw [fam.K i]; exact M) (by rw [fam.prog i, fam.w i, fam.K i, fam.mg i, fam.base i]; exact Fn) ((fam.room i).mono hk) (hg i) (by rw [fam.mg i]; exact hm) pass0 (uA_pa i) hdb (he i) (hpl i), ?_⟩
  refine ha q F' σ G H I _ fun vs G1 H1 t1 I1 p1 => ?_
  obtain ⟨d, hs, hp, hR⟩ := hA vs G1 p1
  exact mk_made d hs I1.sub hp fun v G2 H2 t2 r => kk v G2 H2 (t1.trans t2.any) (I1.pure t2) (hR v G2 r)
/-- two targets -/
theorem g_tup2 (hK : ∀ l, (X l).K = K) (calm : ∀ l, (X l).calm = true) (h1 : TyG X Ga P1 t1 ks1 Gb) (h2 : TyG X Gb P2 t2 ks2 Gc) (hn : ∀ l, (assignEach [t1, t2] (X l).env).length = 2 := by intro i; rfl) (hst : ∀ l, (assignEach [t1, t2] (X l).env).findIdx? (·.1) = none := by intro i; rfl)
    (mk : ∀ l, PGs (X l) [t1, t2] (gCons (uG X t1) (gCons (uG X t2) gNil)) := by intro l; exact pgs_cons (uG_pg l) (pgs_cons (uG_pg l) pgs_nil)) :
    TyG X Ga (Tp [P1, P2]) (.Tuple [t1, t2] kk pos) (ks1 ++ ks2) Gc := fun q F σ G H v I p Q k => by
  obtain ⟨t, xs, e1, e2, e3⟩ := p
  match xs, e3 with
  | [u, w], ⟨p1, p2, _⟩ =>
    refine ⟨gTup K 2 (gCons (uG X t1) (gCons (uG X t2) gNil)), fun l => by rw [← hK l]; exact pg_tup (calm l) (mk l) (hn l) (hst l), t, [u, w], e1, SqT.of (I.sub _ _ e2), rfl, u, [w], rfl, ?_⟩
    refine h1 q F σ G H u I p1 _ fun σ1 G1 H1 s1 o1 I1 => ⟨w, [], rfl, ?_⟩
    refine h2 q F σ1 G1 H1 w I1 (P2.mono s1.k p2) _ fun σ2 G2 H2 s2 o2 I2 => ⟨rfl, ?_⟩
    exact k σ2 G2 H2 (s1.trans s2) ⟨o2.1.trans o1.1, fun j hj => (o2.2 j fun z => hj (List.mem_append_right _ z)).trans (o1.2 j fun z => hj (List.mem_append_left _ z))⟩ I2
end
end Ty
namespace Tf
open PySem PySem.Spec PyProof.Rows L2 Ty TL
abbrev ds0 : List V := [.int 0, .non]
structure LawM (P : Program) (w : World) (K : PySem.W.Frag) (mg : Str → Option Value) (base : Heap) (cR cF cW cU : Addr) : Prop where
  b : Fb mg
  r : RaM P w K mg base cR
  wf : WoF mg K cW
  uf : RuF mg K cU
  ff : FeF mg K cF
  dr : Gf P w K mg base 1 "_law_draw" spDr
  lp : Gf P w K mg base 5 "_law_pair" (spLP cW cU)
  lw : Gf P w K mg base 4 "_law_worths" (spLW cW)
  lr : Gf P w K mg base 4 "_law_rule" (spLR cU)
  lf : Gf P w K mg base 6 "_law_fees" (spLFe cR cF)
  rg : Gf P w K mg base 2 "_law_rings" spRg
  rs : Gf P w K mg base 8 "ring_sum" (spRS cW cU)
  cb : Gf P w K mg base 70 "can_be_true" (spCB cW cU)
  lg : Gf P w K mg base 10 "least_gain" (spLG cR cW cU)
  bl : Gf P w K mg base 8 "best_lie" (spBL cR cF cW cU)
  mo : Gf P w K mg base 9 "most_gain" (spMG cR cF cW cU)
  it : Gf P w K mg base 9 "is_true" (spIT cR cF cW cU)
  nf : Gf P w K mg base 11 "nearest_fees" (spNF cR cF cW cU)
  gk1 : Gk P w K mg base 70 "greatest_fees" 2 ["kind"] [.non] (spGF cR cF cW cU)
  gk2 : Gk P w K mg base 70 "greatest_fees" 2 ["kind", "amount"] [] (spGF cR cF cW cU)
  gf0 : Gf P w K mg base 70 "greatest_fees" (fun vs H Q E => spGF cR cF cW cU (vs ++ ds0) H Q E)
  lf0 : Gf P w K mg base 70 "least_fees" (fun vs H Q E => spLF cR cF cW cU (vs ++ ds0) H Q E)
  sp : Gf P w K mg base 70 "spread" (spSP cR cW cU)
  io : Gf P w K mg base 70 "is_only" (spIO cW cU)
  gr : Gf P w K mg base 2 "greatest" (spGr cR)
  itF : Itf P w K mg base 1 cF "amounts"
  lnF : Sf P w K mg base 1 cF "__len__" (Ow.spLn K cF "amounts")
  itU : Itf P w K mg base 1 cU "outcomes"
  lnU : Sf P w K mg base 1 cU "__len__" (Ow.spLn K cU "outcomes")
  neW : Nef P w K mg base 1 cW (spWE cW)
  eqW : Sf P w K mg base 1 cW "__eq__" (spWE cW)
  neU : Nef P w K mg base 1 cU (spUE cU)
  adW : Sf P w K mg base 3 cW "__add__" (spWA cW)
  fiW : PySem.W.selfFirst K cW = true
  stW : Sf P w K mg base 1 cW "__str__" (spWS cW)
  ww : Mf P w K mg base 3 cW "with_worth" (spWW cW)
  uw : Mf P w K mg base 3 cU "with_outcome" (spUW cU)
section
variable {P : Program} {w : World} {K : PySem.W.Frag} {mg : Str → Option Value} {base : Heap} {cR cF cW cU : Addr} {ι : Type} {X : ι → Cx} {Ga Gb Gc : List Sl} {e e1 e2 : Expr} {pos p p1 p2 p3 : Pos} {j : Nat} {rows rows' : List (List Int)} {t t' : List Nat} {qs : List Rat}
/-- list(fees) -/
theorem e_lFe (m : LawM P w K mg base cR cF cW cU) (fam : Fam X P w K mg base j) (h : TyE X Ga e (Fe cR cF qs) Gb) (hk : 4 ≤ j := by decide) (hg : ∀ i, Gl (X i) "list" := by intro i; rfl) (hs : ∀ i, starEach [e] (X i).env = (false, eval e (X i).env) :: starEach [] (X i).env := by intro i; rfl) (hpl : ∀ i, (backTo pos (starEach [] (X i).env)).any (·.1) = false := by intro i; rfl) :
    TyE X Ga (.Call (.Name "list" p) [e] [] pos) (Ls (qs.map (Ra cR))) Gb := e_listO fam m.itF m.lnF 0 (fun i => by rw [fam.mg i]; exact m.b.list) h rfl ⟨rfl, rfl⟩ hk hg hs hpl
theorem vp {d : dWR} {vs : List V} {G : Hp} (h : AllP [Wo cW d.1, Ru cU d.2] vs G) : AllP [Wo cW d.1, Ru cU d.2, ni 0, Is .non] (vs ++ ds0) G := by
  match vs, h with
  | [a, b], ⟨h1, h2, _⟩ => exact ⟨h1, h2, rfl, rfl, trivial⟩
/-- two tables and rules -/
abbrev pairP2 (cW cU : Addr) (a b : dWR) : Pd := Tp [Tp [Wo cW a.1, Ru cU a.2], Tp [Wo cW b.1, Ru cU b.2]]
/-- a list of Ratios is equal to itself -/
theorem se_ra : SelfEq cR (aTwo cR) (fun _ => True) (fun d : Rat × Rat => IsB (decide (d.1 = d.2))) (Ra cR) qs := ⟨fun q _ => ⟨(q, q), raF q, rfl, rfl, trivial, by rw [decide_eq_true rfl]⟩⟩
def optD : Option (Nat × Nat) → PyData
  | none => .none
  | some p => tdat [(p.1 : Int), (p.2 : Int)]
theorem dq_opt (o : Option (Nat × Nat)) : Dq K (optP o) (optD o) := by
  cases o with
  | none => exact ⟨fun v G H e h => by cases h; exact .non, by unfold optD; simp [PyData.canLay0]⟩
  | some p => exact dq_tp (f := IsI) (g := .int) (fun _ => dq_int) [(p.1 : Int), (p.2 : Int)]
theorem depth_opt (o : Option (Nat × Nat)) : (optD o).depth ≤ 64 := by
  cases o with
  | none => unfold optD; simp [PyData.depth]
  | some p => exact depth_tdat _
theorem eqv_opt (o : Option (Nat × Nat)) : PyData.eqv (optD o) (optD o) = true := by
  cases o with
  | none => unfold optD; simp [PyData.eqv]
  | some p => exact ldat_self _
end
end Tf
end
section
/-! A number for each outcome. -/
namespace Tf
open PySem PySem.Spec PyProof.Rows L2 Ty TL
/-- a table, a rule, draws so far -/
structure sLaw (d : Nat × dWR) : Prop where
  c : d.1 ≤ 900
  t : okT d.2.1
  u : okU d.2.1 d.2.2
abbrev aLaw (d : Nat × dWR) : List Pd := [Ls (d.2.1.map rowP), Ls (d.2.2.map ni)]
abbrev spLaw5 : Sp := SpO aLaw sLaw (fun _ => IsB true) (fun d => poolM d.1) (fun d => poolM (d.1 + 40))
theorem Q6.half {x : Nat} (h : x < 9) : Q6 1000 (mkRat (x : Int) 2) := by
  refine (Q6.frac (B := 9) (m := 2) (x := (x : Int)) (by omega) (by decide) (by decide)).mono (by decide)
theorem two_ok {y : Nat} : sInit ((y : Int), 2) := ⟨by show 0 < 2; decide, by show 2 < 2 ^ 1300; exact Nat.lt_of_lt_of_le (show 2 < 2 ^ 2 by decide) (Nat.pow_le_pow_right (by decide) (by decide))⟩
theorem vk1 {cR cW cU : Addr} {d : dWR} {P1 : Pd} {vs zs : List V} {G : Hp} (h : AllP [Wo cW d.1, Ru cU d.2] vs G) (h2 : AllP [P1] zs G) : AllP [Wo cW d.1, Ru cU d.2, P1, amP cR none] (vs ++ (zs ++ [.non])) G := by
  match vs, h, zs, h2 with
  | [a, b], ⟨h1, h2, _⟩, [c], ⟨h3, _⟩ => exact ⟨h1, h2, h3, rfl, trivial⟩
theorem vk2 {cW cU : Addr} {d : dWR} {P1 P2 : Pd} {vs zs : List V} {G : Hp} (h : AllP [Wo cW d.1, Ru cU d.2] vs G) (h2 : AllP [P1, P2] zs G) : AllP [Wo cW d.1, Ru cU d.2, P1, P2] (vs ++ (zs ++ [])) G := by
  match vs, h, zs, h2 with
  | [a, b], ⟨h1, h2, _⟩, [c, e], ⟨h3, h4, _⟩ => exact ⟨h1, h2, h3, h4, trivial⟩
theorem fw_some {d : dWR} {b : Bool} (h : (yV d).isSome = b) (hb : b = true) : ∃ s, yV d = some s := Option.isSome_iff_exists.mp (h.trans hb)
section
variable {P : Program} {w : World} {K : PySem.W.Frag} {mg : Str → Option Value} {base : Heap} {f : Addr} {fd : FuncData} {cR cF cW cU : Addr}
abbrev NPr : List Str := ["_law_pool", "_law_rows", "_law_told", "_law_more", "_law_lifted", "_law_one", "_law_rule_here", "_law_two", "_law_other", "_law_pays", "_law_moved", "_law_at_here", "_law_high", "_law_due", "_law_row", "_law_ring", "_law_k"]
theorem scPr : FnScope NPr ["_law_pool", "_law_rows", "_law_told"] (defScope (top 68)) := ⟨rfl, rfl, rfl, by decide +kernel, rfl, by decide +kernel, by decide +kernel⟩
theorem body_pr (m : LawM P w K mg base cR cF cW cU) (d : Nat × dWR) (h : sLaw d) : BodyOk P w K mg base NPr "_law_priced_right" (defScope (top 68)) (defBody (top 68)) 71 (padG NPr (.own (poolM d.1) :: (aLaw d).map .is)) (IsB true) (some (poolM (d.1 + 40))) := by
  intro f cdv Ar outer s H E fam
  obtain ⟨c, rows, told⟩ := d
  have hc : c ≤ 900 := h.c
  have ht : okT rows := h.t
  have hu : okU rows told := h.u
  have nd := scPr.nd
  have n4 := ht.n4
  have n1 := ht.n1
  have m4 := ht.m4
  have hvd := ht.tb.vd hu
  have lu : told.length = rows.length := hu.1
  refine ⟨none, ?_, fun _ h => nomatch h⟩
  have at0 : atI (rows.map rowP) ((0 : Nat) : Int) = some (rowP (rows.headD [])) := by
    have := at_map (l := rows) (g := rowP) (k := 0) (d := []) n1
    rw [show rows.getD 0 [] = rows.headD [] by cases rows <;> rfl] at this
    exact this
  generalize ho : (rows.headD []).length = outs at *
  -- more
  refine b_st 3 (fun _ => nd) (P := Some' (PW (fun (_ : Nat) (x : Int) => x.natAbs ≤ 6) (List.range outs)) fun xs => Ls (xs.map IsI)) (TyE.conv (e_lcO (ds := List.range outs) (it := ni) (f := fun _ => Some' (fun x : Int => x.natAbs ≤ 6) IsI) (M := fun i => poolM (c + i)) 0 11 (by decide) rfl (fun _ => nd) (fun _ => rfl) (i_rng (fun _ => m.b.range) (TyE.eq (e_lenL (Ps := (rows.headD []).map IsI) (fun _ => m.b.len) (fun _ => rfl) (e_ixL (fun _ => rfl) (vr 1) e_int at0)) (by rw [List.length_map, ho])) (by omega)) (fun i x hx => ?_) (by rw [rg_len, sizeLine_eq]; omega) (own0 rfl)) (Ls.pick (C := fun (_ : Nat) (x : Int) => x.natAbs ≤ 6) (Px := IsI))) ?_
  · obtain ⟨rfl, hi⟩ := rg_at hx
    exact e_op (r := rI0 fun i j => .int (i - j)) (fun _ => op_sub) (e_draw fam.blk m.dr (c + x) 13 ⟨_, rfl⟩ e_int rfl (by omega)) e_int (o_ex1 fun y hy => OpT.to o_rI0 fun v G p => ⟨_, by show ((y : Int) - 6).natAbs ≤ 6; have hy : y < 13 := hy; omega, p⟩)
  refine b_open (k := 3) rfl fun more hm => ?_
  have lm : more.length = outs := hm.len.trans rg_len
  have hm6 : ∀ x ∈ more, x.natAbs ≤ 6 := fun x hx => by obtain ⟨_, _, h⟩ := hm.mem x hx; exact h
  refine TyB.weak (Ga := [.own (poolM (c + 4)), .is (Ls (rows.map rowP)), .is (Ls (told.map ni)), .is (Ls (more.map IsI)), .any, .any, .any, .any, .any, .any, .any, .any, .any, .any, .any, .any, .any]) ?_ (.cons (.own (poolM_mono (by rw [rg_len]; omega))) (GaLe.refl _))
  -- lifted
  let lif := liftV rows more
  have htb : Tb lif := lift_tb ht hm6
  have hlu : okU lif told := lift_u hu
  have hlv := htb.vd hlu
  have ll : lif.length = rows.length := lift_len
  have shf : Shf (lossV rows told) (lossV lif told) rows.length (mvI told more) := lift_shf ht hu
  refine b_lcN (ds := rows) (it := rowP) (f := fun r => rowP (liftR more r)) 4 14 (fun _ => nd) (fun _ => rfl) (i_list (fun _ => rfl) (vr 1)) (fun r hr => ?_) (by rw [sizeLine_eq]; omega) (fun i M h z => by subst z; cases h) ?_
  · have hrl : r.length = outs := by rw [ht.eq r hr, ho]
    refine TyE.eq (e_lcN (ds := List.range r.length) (it := ni) (f := fun i => IsI (r.getD i 0 + more.getD i 0)) 11 (fun _ => nd) (fun _ => rfl) (i_rng (fun _ => m.b.range) (TyE.eq (e_lenL (Ps := r.map IsI) (fun _ => m.b.len) (fun _ => rfl) (vr 14)) (by rw [List.length_map])) (by omega)) (fun i hi => ?_) (by rw [rg_len, sizeLine_eq]; omega) (fun i M h z => by subst z; cases h)) (by unfold rowP liftR; rw [List.map_map]; rfl)
    have hi := List.mem_range.mp hi
    exact e_add (e_ixL (Ps := r.map IsI) (fun _ => rfl) (vr 14) (vr 11) (at_map hi)) (e_ixL (Ps := more.map IsI) (fun _ => rfl) (vr 3) (vr 11) (at_map (by omega)))
  -- one, two
  refine b_asg (e_tup (a_2 (e_gf fam m.lp (rows, told) (fun _ => rfl) (a_2 (vr 1) (vr 2)) ⟨ht.tb.wd, ht.tb.ri hu⟩) (e_gf fam m.lp (lif, told) (fun _ => rfl) (a_2 (TyE.eq (vr 4) (by show _ = Ls (lif.map rowP); show _ = Ls ((rows.map (liftR more)).map rowP); rw [List.map_map]; rfl)) (vr 2)) ⟨htb.wd, htb.ri hlu⟩)) len2) (g_tup2 (fun _ => rfl) (fun _ => rfl) (g_pr 5 6 (fun _ => rfl) (fun _ => rfl) (fun _ => nd)) (g_pr 7 8 (fun _ => rfl) (fun _ => rfl) (fun _ => nd))) ?_
  refine TyB.weak (Ga := [.own (poolM (c + 4)), .is (Ls (rows.map rowP)), .is (Ls (told.map ni)), .is (Ls (more.map IsI)), .any, .is (Wo cW rows), .is (Ru cU told), .is (Wo cW lif), .is (Ru cU told), .any, .any, .any, .any, .any, .any, .any, .any]) ?_ (.cons .rfl (.cons .rfl (.cons .rfl (.cons .rfl (.cons .any (GaLe.refl _))))))
  have eLen : ∀ {Gx : List Sl} {p q r : Pos}, Gx[1]? = some (.is (Ls (rows.map rowP))) → TyE (bodyX P w K mg base NPr "_law_priced_right" (defScope (top 68)) f cdv Ar outer s H E) Gx (.Call (.Name "len" p) [.Name "_law_rows" q] [] r) (ni rows.length) Gx := fun hx => TyE.eq (e_lenL (fun _ => m.b.len) (fun _ => rfl) (vr 1 (h := hx))) (by rw [List.length_map])
  -- rings
  refine b_guard (t_neD (P2 := Ls (([] : List (List Nat)).map tupP)) (b := true) fam (TyE.eq (P' := Ls (([] : List (List Nat)).map tupP)) (e_lcF (ds := ringsV rows.length) (it := tupP) (f := tupP) (t := fun _ => false) 15 (fun _ => nd) (fun _ => rfl) (i_list (fun _ => rfl) (e_gf fam m.rg rows.length (fun _ => rfl) (a_1 (eLen rfl)) n4)) (fun r hr => ?_) (fun r _ h => nomatch h) (by have := rings_len n4; rw [sizeLine_eq]; omega) (fun i M h z => by subst z; cases h)) (by rw [show ((ringsV rows.length).filter fun _ => false) = [] from by simp])) (e_lst a_nil (Nat.zero_le _)) (dq_tups []) (dq_tups []) (depth_tups _) (depth_tups _) (by exact (eqv_tups [] []).mpr rfl)) rfl ?_
  · obtain ⟨r1, r2, r3, r4⟩ := rings_ok n4 hr
    refine TyT.eq (t_ne (e_gf fam.blk m.rs ((rows, told), r) (fun _ => rfl) (a_cons (vr 5) (a_2 (vr 6) (vr 15))) ⟨hvd, r1, r2, r3, r4⟩) (e_gf fam.blk m.rs ((lif, told), r) (fun _ => rfl) (a_cons (vr 7) (a_2 (vr 8) (vr 15))) ⟨hlv, r1, r2, by show ∀ k ∈ r, k < lif.length; rw [ll]; exact r3, r4⟩)) ?_
    show (!decide (ringV rows told r = ringV lif told r)) = false
    rw [ring_shf shf r3, decide_eq_true rfl]; rfl
  -- can_be_true
  have eS : (yV (rows, told)).isSome = (yV (lif, told)).isSome := by
    show (fwV (lossV rows told) rows.length).isSome = (fwV (lossV lif told) lif.length).isSome
    rw [ll]; exact shf.some
  refine b_guard (t_neB (e_gf fam m.cb (rows, told) (fun _ => rfl) (a_2 (vr 5) (vr 6)) hvd) (e_gf fam m.cb (lif, told) (fun _ => rfl) (a_2 (vr 7) (vr 8)) hlv)) (by rw [eS, decide_eq_true rfl]; rfl) ?_
  -- least_gain
  refine b_guard (b := false) (TyT.eq (t_w (w_and (b2 := false) (t_gt (eLen rfl) e_int) (fun hb => ?_) (fun _ => GaLe.refl _))) (Bool.and_false _)) rfl ?_
  · have h2 : 2 ≤ rows.length := by have := of_decide_eq_true hb; omega
    refine w_and1 (TyT.eq (t_ne2 fam m.r.ne (lgV (lossV rows told) rows.length, lgV (lossV lif told) lif.length) rfl trivial rfl (e_gf fam m.lg (rows, told) (fun _ => rfl) (a_2 (vr 5) (vr 6)) ⟨hvd, h2⟩) (e_gf fam m.lg (lif, told) (fun _ => rfl) (a_2 (vr 7) (vr 8)) ⟨hlv, by show 2 ≤ lif.length; rw [ll]; exact h2⟩)) ?_)
    show (!decide (lgV (lossV rows told) rows.length = lgV (lossV lif told) lif.length)) = false
    rw [ll, shf.lg h2, decide_eq_true rfl]; rfl
  -- pays
  refine b_st 9 (fun _ => nd) (P := Some' (PW (fun (_ : List Int) (q : Rat) => Q6 1000 q) rows) fun xs => Ls (xs.map (Ra cR))) (TyE.conv (e_lcO (ds := rows) (it := rowP) (f := fun _ => Some' (fun q : Rat => Q6 1000 q) (Ra cR)) (M := fun i => poolM (c + 4 + i)) 0 14 (by decide) rfl (fun _ => nd) (fun _ => rfl) (i_list (fun _ => rfl) (vr 1)) (fun i x hx => ?_) (by rw [sizeLine_eq]; omega) (own0 rfl)) (Ls.pick (C := fun (_ : List Int) (q : Rat) => Q6 1000 q) (Px := Ra cR))) ?_
  · have hi := (List.getElem?_eq_some_iff.mp hx).1
    refine e_mkX fam.blk m.r.made (fun _ => rfl) m.r.f.glo (a_2 (e_draw fam.blk m.dr (c + 4 + i) 9 ⟨_, rfl⟩ e_int rfl (by omega)) e_int) fun vs G hp => ?_
    match vs, hp with
    | [u, v], ⟨⟨y, hy, p1⟩, p2, _⟩ => exact ⟨((y : Int), 2), two_ok, ⟨p1, p2, trivial⟩, fun v G' h => ⟨mkRat (y : Int) 2, Q6.half hy, h⟩⟩
  refine b_open (k := 9) rfl fun pays hp => ?_
  have lp : pays.length = rows.length := hp.len
  have hpq : ∀ q ∈ pays, Q6 1000 q := fun x hx => by obtain ⟨_, _, h⟩ := hp.mem x hx; exact h
  have hpk : ∀ k, Q6 1000 (pays.getD k 0) := fun k => by
    by_cases ck : k < pays.length
    · exact hpq _ (getD_mem ck)
    · rw [getD_out ck]; exact (Q6.int (n := 0) (B := 0) (by decide)).mono (by decide)
  refine TyB.weak (Ga := [.own (poolM (c + 8)), .is (Ls (rows.map rowP)), .is (Ls (told.map ni)), .is (Ls (more.map IsI)), .any, .is (Wo cW rows), .is (Ru cU told), .is (Wo cW lif), .is (Ru cU told), .is (Ls (pays.map (Ra cR))), .any, .any, .any, .any, .any, .any, .any]) ?_ (.cons (.own (poolM_mono (by omega))) (GaLe.refl _))
  -- moved, best lies
  have hmi : ∀ k, (mvI told more k).natAbs ≤ 6 := fun k => by
    unfold mvI
    by_cases ck : told.getD k 0 < more.length
    · exact hm6 _ (getD_mem ck)
    · rw [getD_out ck]; decide
  have hmq : ∀ k, Q6 360 ((mvI told more k : Int) : Rat) := fun k => Q6.int (hmi k)
  have hto : ∀ k, k < rows.length → told.getD k 0 < more.length := fun k hk => by
    have := vd_t hu hk
    rw [ho] at this
    omega
  refine b_lcN (ds := List.range rows.length) (it := ni) (f := fun k => Ra cR (pays.getD k 0 + (mvI told more k : Rat))) 10 16 (fun _ => nd) (fun _ => rfl) (i_rng (fun _ => m.b.range) (eLen rfl) (by omega)) (fun k hk => ?_) (by rw [rg_len, sizeLine_eq]; omega) (fun i M h z => by subst z; cases h) ?_
  · have hk := List.mem_range.mp hk
    exact e_radd fam.blk m.r (e_ixL (Ps := pays.map (Ra cR)) (fun _ => rfl) (vr 9) (vr 16) (at_map (by omega))) (e_rwhole fam.blk m.r (e_ixL (Ps := more.map IsI) (fun _ => rfl) (vr 3) (e_ixL (Ps := told.map ni) (fun _ => rfl) (vr 2) (vr 16) (at_map (by omega))) (at_map (hto k hk)))) ((hpk k).sz (by decide)) ((hmq k).sz (by decide))
  have hmvk : ∀ k, k < rows.length → ((List.range rows.length).map fun k => pays.getD k 0 + (mvI told more k : Rat)).getD k 0 = pays.getD k 0 + (mvI told more k : Rat) := fun k hk => getD_rng hk
  have hmvq : ∀ k, Q6 2000 (((List.range rows.length).map fun k => pays.getD k 0 + (mvI told more k : Rat)).getD k 0) := fun k => by
    by_cases ck : k < rows.length
    · rw [hmvk k ck]; exact ((hpk k).add (hmq k)).mono (by decide)
    · rw [getD_out (by rw [List.length_map, List.length_range]; exact ck)]; exact (Q6.int (n := 0) (B := 0) (by decide)).mono (by decide)
  have eqb : bestV rows told pays = bestV lif told ((List.range rows.length).map fun k => pays.getD k 0 + (mvI told more k : Rat)) := best_congr ll.symm fun p hp => gain_shf shf (fun k hk => hmvk k hk) hp
  refine b_guard (t_neD (P1 := optP (bestV rows told pays)) (P2 := optP (bestV lif told ((List.range rows.length).map fun k => pays.getD k 0 + (mvI told more k : Rat)))) (b := true) fam (e_gf fam m.bl ((rows, told), pays) (fun _ => rfl) (a_cons (vr 5) (a_2 (vr 6) (e_gf fam m.lf pays (fun _ => rfl) (a_1 (vr 9)) ⟨by omega, by omega, fun q hq => (hpq q hq).sz (by decide)⟩))) ⟨hvd, lp, fun k => (hpk k).mono (by decide)⟩)
    (e_gf fam m.bl ((lif, told), ((List.range rows.length).map fun k => pays.getD k 0 + (mvI told more k : Rat))) (fun _ => rfl) (a_cons (vr 7) (a_2 (vr 8) (e_gf fam m.lf ((List.range rows.length).map fun k => pays.getD k 0 + (mvI told more k : Rat)) (fun _ => rfl) (a_1 (TyE.eq (vr 10) (by rw [List.map_map]; rfl))) ⟨by rw [List.length_map, List.length_range]; omega, by rw [List.length_map, List.length_range]; omega, fun q hq => by
      obtain ⟨k, hk, rfl⟩ := List.mem_map.mp hq
      exact ((hpk k).add (hmq k)).sz (by decide)⟩))) ⟨hlv, by show _ = lif.length; rw [List.length_map, List.length_range, ll], fun k => (hmvq k).mono (by decide)⟩)
    (dq_opt _) (dq_opt _) (depth_opt _) (depth_opt _) (by rw [← eqb]; exact eqv_opt _)) rfl ?_
  -- fees
  refine b_ifr (t_not (t_val (e_gf fam m.cb (rows, told) (fun _ => rfl) (a_2 (vr 5) (vr 6)) hvd))) (fun _ => b_ret e_bl (OwnAt.imp 0 rfl (poolM_mono (by omega)))) fun hb => ?_
  obtain ⟨s1, hs1⟩ : ∃ s, yV (rows, told) = some s := Option.isSome_iff_exists.mp (by simpa using hb)
  obtain ⟨s2, hs2⟩ : ∃ s, yV (lif, told) = some s := Option.isSome_iff_exists.mp (by rw [← eS, hs1]; rfl)
  refine b_st 11 (fun _ => nd) (e_draw fam m.dr (c + 8) rows.length ⟨_, rfl⟩ (eLen rfl) rfl (by omega) ⟨n1, by omega⟩) ?_
  refine b_open (k := 11) rfl fun a ha => ?_
  have ha : a < rows.length := ha
  refine b_st 12 (fun _ => nd) (e_lFe m fam (e_gk1 fam m.gk1 (dG.mk ((rows, told), s1) a none) (fun _ => rfl) (a_2 (vr 5) (vr 6)) (vr 11) (fun vs zs G h1 h2 => vk1 h1 h2) rfl ⟨⟨hvd, hs1⟩, ha, (Q6.int (n := 0) (B := 0) (by decide)).mono (by decide)⟩)) ?_
  have lg1 : (gfV rows.length s1.1 a 0).length = rows.length := by unfold gfV; rw [List.length_map, List.length_range]
  have hgq : ∀ k, k < rows.length → Q6 (2 ^ 91) ((gfV rows.length s1.1 a 0).getD k 0) := fun k hk => by
    unfold gfV
    rw [getD_rng hk]
    exact (((Q6.int (n := 0) (B := 0) (by decide)).add (Q6.sum hvd hs1 hk ha))).mono (by decide)
  refine b_lcN (ds := List.range rows.length) (it := ni) (f := fun k => Ra cR ((gfV rows.length s1.1 a 0).getD k 0 + (mvI told more k : Rat))) 13 16 (fun _ => nd) (fun _ => rfl) (i_rng (fun _ => m.b.range) (eLen rfl) (by omega)) (fun k hk => ?_) (by rw [rg_len, sizeLine_eq]; omega) (fun i M h z => by subst z; cases h) ?_
  · have hk := List.mem_range.mp hk
    exact e_radd fam.blk m.r (e_ixL (Ps := (gfV rows.length s1.1 a 0).map (Ra cR)) (fun _ => rfl) (vr 12) (vr 16) (at_map (by omega))) (e_rwhole fam.blk m.r (e_ixL (Ps := more.map IsI) (fun _ => rfl) (vr 3) (e_ixL (Ps := told.map ni) (fun _ => rfl) (vr 2) (vr 16) (at_map (by omega))) (at_map (hto k hk)))) ((hgq k hk).sz (by decide)) ((hmq k).sz (by decide))
  have hs2' : fwV (lossV lif told) rows.length = some s2 := by rw [← ll]; exact hs2
  have eqg : gfV rows.length s2.1 a (mvI told more a : Rat) = (List.range rows.length).map fun k => (gfV rows.length s1.1 a 0).getD k 0 + (mvI told more k : Rat) := gf_shf shf hs1 hs2' ha
  refine b_ret (v_eqL fam m.r.eq se_ra (TyE.eq (P' := Ls (((List.range rows.length).map fun k => (gfV rows.length s1.1 a 0).getD k 0 + (mvI told more k : Rat)).map (Ra cR))) (e_lFe m fam (e_gk2 fam m.gk2 (dG.mk ((lif, told), s2) a (some (mvI told more a : Rat))) (fun _ => rfl) (a_2 (vr 7) (vr 8)) (vr 11) (e_rwhole fam m.r (e_ixL (Ps := more.map IsI) (fun _ => rfl) (vr 3) (e_ixL (Ps := told.map ni) (fun _ => rfl) (vr 2) (vr 11) (at_map (by omega))) (at_map (hto a ha)))) (fun vs zs G h1 h2 => vk2 h1 h2) rfl ⟨⟨hlv, hs2⟩, by show a < lif.length; omega, (hmq a).mono (by decide)⟩)) (by rw [← eqg]; show Ls ((gfV lif.length _ _ _).map _) = _; rw [ll]; rfl)) (TyE.eq (vr 13) (by rw [List.map_map]; rfl))) (OwnAt.imp 0 rfl (poolM_mono (by omega)))
end
end Tf
end
section
/-! A twin. -/
namespace Tf
open PySem PySem.Spec PyProof.Rows L2 Ty TL
theorem Sz.zero : Sz 0 := (Q6.int (n := 0) (B := 0) (by decide)).sz (by decide)
theorem lgV_sz {rows : List (List Int)} {t : List Nat} (h : Vd rows t) : Sz (lgV (lossV rows t) rows.length) := by
  unfold lgV
  exact (lmV_q6 (lossV_bd h) h.rc.n1 h.rc.n6).neg.sz (by decide)
theorem gfV_len {n k : Nat} {D : Nat × Nat → Int} {a : Rat} : (gfV n D k a).length = n := by unfold gfV; rw [List.length_map, List.length_range]
theorem lfV_len {n k : Nat} {D : Nat × Nat → Int} {a : Rat} : (lfV n D k a).length = n := by unfold lfV; rw [List.length_map, List.length_range]
theorem ls_snoc {α : Type} {f : α → Pd} {l : List α} {x : α} : Ls (l.map f ++ [f x]) = Ls ((l ++ [x]).map f) := by rw [List.map_append]; rfl
theorem ls_cat {α : Type} {f : α → Pd} {l l2 : List α} : Ls (l.map f ++ l2.map f) = Ls ((l ++ l2).map f) := by rw [List.map_append]
abbrev j01 (n : Nat) : Nat := if 1 < n then 1 else 0
theorem j01_le {n : Nat} : j01 n ≤ 1 := by unfold j01; split <;> omega
theorem j01_eq {n : Nat} : IsI (if decide ((1 : Int) < (n : Int)) = true then 1 else 0) = ni (j01 n) := by
  unfold j01
  by_cases c : 1 < n
  · rw [if_pos (decide_eq_true (by omega)), if_pos c]; rfl
  · rw [if_neg (by rw [decide_eq_false (by omega)]; decide), if_neg c]; rfl
/-- the least gain of each turn -/
abbrev dueV (rows : List (List Int)) (t : List Nat) : List Rat := (List.range (j01 rows.length)).map fun _ => lgV (lossV rows t) rows.length
theorem due_twn {rows : List (List Int)} {t : List Nat} {L' : Nat → Nat → Int} {a : Nat} (n1 : 1 ≤ rows.length) (tw : Twn (lossV rows t) L' rows.length a) : lgV L' (rows.length + 1) = gmaxL (((0 : Int) : Rat) :: dueV rows t) := by
  unfold dueV
  by_cases c2 : 2 ≤ rows.length
  · have : j01 rows.length = 1 := if_pos c2
    rw [this]
    exact tw.lg c2
  · have : j01 rows.length = 0 := if_neg c2
    rw [this]
    have e1 : rows.length = 1 := by omega
    rw [e1] at tw ⊢
    exact tw.lg1
section
variable {P : Program} {w : World} {K : PySem.W.Frag} {mg : Str → Option Value} {base : Heap} {f : Addr} {fd : FuncData} {cR cF cW cU : Addr}
abbrev NTw : List Str := ["_law_pool", "_law_rows", "_law_told", "_law_at_here", "_law_one", "_law_rule_here", "_law_two", "_law_other", "_law_zero", "_law_due", "_law_high", "_law_low", "_law_turn"]
theorem scTw : FnScope NTw ["_law_pool", "_law_rows", "_law_told"] (defScope (top 69)) := ⟨rfl, rfl, rfl, by decide +kernel, rfl, by decide +kernel, by decide +kernel⟩
theorem body_tw (m : LawM P w K mg base cR cF cW cU) (d : Nat × dWR) (h : sLaw d) : BodyOk P w K mg base NTw "_law_twin_right" (defScope (top 69)) (defBody (top 69)) 71 (padG NTw (.own (poolM d.1) :: (aLaw d).map .is)) (IsB true) (some (poolM (d.1 + 40))) := by
  intro f cdv Ar outer s H E fam
  obtain ⟨c, rows, told⟩ := d
  have hc : c ≤ 900 := h.c
  have ht : okT rows := h.t
  have hu : okU rows told := h.u
  have nd := scTw.nd
  have n4 := ht.n4
  have n1 := ht.n1
  have hvd := ht.tb.vd hu
  have lu : told.length = rows.length := hu.1
  refine ⟨none, ?_, fun _ h => nomatch h⟩
  have eLen : ∀ {Gx : List Sl} {p q r : Pos}, Gx[1]? = some (.is (Ls (rows.map rowP))) → TyE (bodyX P w K mg base NTw "_law_twin_right" (defScope (top 69)) f cdv Ar outer s H E) Gx (.Call (.Name "len" p) [.Name "_law_rows" q] [] r) (ni rows.length) Gx := fun hx => TyE.eq (e_lenL (fun _ => m.b.len) (fun _ => rfl) (vr 1 (h := hx))) (by rw [List.length_map])
  refine b_st 3 (fun _ => nd) (e_draw fam m.dr c rows.length ⟨_, rfl⟩ (eLen rfl) rfl (by omega) ⟨n1, by omega⟩) ?_
  refine b_open (k := 3) rfl fun a ha => ?_
  have ha : a < rows.length := ha
  let rows2 := rows ++ [rows.getD a []]
  let told2 := told ++ [told.getD a 0]
  have l2 : rows2.length = rows.length + 1 := List.length_append
  have htb : Tb rows2 := (tw_tb ht ha).1
  have hu2 : okU rows2 told2 := tw_u ht hu ha
  have hv2 := htb.vd hu2
  have tw : Twn (lossV rows told) (lossV rows2 told2) rows.length a := tw_twn hu ha
  refine b_asg (e_tup (a_2 (e_gf fam m.lp (rows, told) (fun _ => rfl) (a_2 (vr 1) (vr 2)) ⟨ht.tb.wd, ht.tb.ri hu⟩) (e_gf fam m.lp (rows2, told2) (fun _ => rfl) (a_2
      (TyE.eq (P' := Ls (rows2.map rowP)) (e_op (r := rCat) (fun _ => op_cat) (vr 1) (e_lst (a_1 (e_ixL (Ps := rows.map rowP) (fun _ => rfl) (vr 1) (vr 3) (at_map (l := rows) (g := rowP) (d := []) ha))) len1) (o_cat (by rw [List.length_map, sizeLine_eq]; show rows.length + 1 ≤ _; omega))) ls_snoc)
      (TyE.eq (P' := Ls (told2.map ni)) (e_op (r := rCat) (fun _ => op_cat) (vr 2) (e_lst (a_1 (e_ixL (Ps := told.map ni) (fun _ => rfl) (vr 2) (vr 3) (at_map (l := told) (g := ni) (d := 0) (by omega)))) len1) (o_cat (by rw [List.length_map, sizeLine_eq]; show told.length + 1 ≤ _; omega))) ls_snoc)) ⟨htb.wd, htb.ri hu2⟩)) len2) (g_tup2 (fun _ => rfl) (fun _ => rfl) (g_pr 4 5 (fun _ => rfl) (fun _ => rfl) (fun _ => nd)) (g_pr 6 7 (fun _ => rfl) (fun _ => rfl) (fun _ => nd))) ?_
  refine b_st 8 (fun _ => nd) (e_rwhole fam m.r e_int) ?_
  -- due
  have hqs : lgV (lossV rows2 told2) rows2.length = gmaxL (((0 : Int) : Rat) :: dueV rows told) := by rw [l2]; exact due_twn n1 tw
  have jl := j01_le (n := rows.length)
  have lq : (dueV rows told).length ≤ 1 := by rw [List.length_map, List.length_range]; exact jl
  refine b_st 9 (fun _ => nd) (e_great (l := ((0 : Int) : Rat) :: dueV rows told) fam m.gr (TyE.eq (e_op (r := rCat) (fun _ => op_cat) (e_lst (a_1 (vr 8)) len1) (e_lcN (ds := List.range (j01 rows.length)) (it := ni) (f := fun _ => Ra cR (lgV (lossV rows told) rows.length)) 12 (fun _ => nd) (fun _ => rfl) (i_rng (fun _ => m.b.range) (TyE.eq (e_intB (fun _ => m.b.int) (v_gt (eLen rfl) e_int)) j01_eq) (by omega)) (fun k hk => ?_) (by rw [rg_len, sizeLine_eq]; omega) (fun i M h z => by subst z; cases h)) (o_cat (by rw [List.length_map, rg_len, sizeLine_eq]; show 1 + j01 rows.length ≤ _; omega))) (by show Ls (_ :: _) = Ls (_ :: (dueV rows told).map _); rw [List.map_map]; rfl)) (fun z => nomatch z) (fun q hq => ?_) (by show (dueV rows told).length + 1 ≤ 1000; omega)) ?_
  · have hk := List.mem_range.mp hk
    have c2 : 2 ≤ rows.length := by unfold j01 at hk; split at hk <;> omega
    exact e_gf fam.blk m.lg (rows, told) (fun _ => rfl) (a_2 (vr 4) (vr 5)) ⟨hvd, c2⟩
  · rcases List.mem_cons.mp hq with rfl | hq
    · exact Sz.zero
    · obtain ⟨_, _, rfl⟩ := List.mem_map.mp hq
      exact lgV_sz hvd
  have eS : (yV (rows, told)).isSome = (yV (rows2, told2)).isSome := by
    show (fwV (lossV rows told) rows.length).isSome = (fwV (lossV rows2 told2) rows2.length).isSome
    rw [l2]; exact tw.some
  refine b_guard (b := false) (TyT.eq (t_w (w_or (t_neB (e_gf fam m.cb (rows, told) (fun _ => rfl) (a_2 (vr 4) (vr 5)) hvd) (e_gf fam m.cb (rows2, told2) (fun _ => rfl) (a_2 (vr 6) (vr 7)) hv2)) (fun _ => w_or1 (t_ne2 fam m.r.ne (lgV (lossV rows2 told2) rows2.length, gmaxL (((0 : Int) : Rat) :: dueV rows told)) rfl trivial rfl (e_gf fam m.lg (rows2, told2) (fun _ => rfl) (a_2 (vr 6) (vr 7)) ⟨hv2, by show 2 ≤ rows2.length; omega⟩) (vr 9))) (fun _ => GaLe.refl _))) (by rw [eS, hqs, decide_eq_true rfl, decide_eq_true rfl]; rfl)) rfl ?_
  refine b_ifr (t_not (t_val (e_gf fam m.cb (rows, told) (fun _ => rfl) (a_2 (vr 4) (vr 5)) hvd))) (fun _ => b_ret e_bl (OwnAt.imp 0 rfl (poolM_mono (by omega)))) fun hb => ?_
  obtain ⟨s1, hs1⟩ : ∃ s, yV (rows, told) = some s := Option.isSome_iff_exists.mp (by simpa using hb)
  obtain ⟨s2, hs2⟩ : ∃ s, yV (rows2, told2) = some s := Option.isSome_iff_exists.mp (by rw [← eS, hs1]; rfl)
  have hs2' : fwV (lossV rows2 told2) (rows.length + 1) = some s2 := by rw [← l2]; exact hs2
  obtain ⟨z1, z2⟩ := sp_twn tw hs1 hs2'
  have zn : -(((0 : Int)) : Rat) = ((0 : Int) : Rat) := rfl
  refine b_guard (b := false) (TyT.eq (t_w (w_or (t_neT (qs := [((0 : Int) : Rat), ((0 : Int) : Rat)]) fam m.r.eq se_ra (TyE.eq (e_gf fam m.sp (((rows2, told2), s2), (a, rows.length)) (fun _ => rfl) (a_cons (vr 6) (a_cons (vr 7) (a_2 (vr 3) (eLen rfl)))) ⟨⟨hv2, hs2⟩, by show a < rows2.length; omega, by show rows.length < rows2.length; omega⟩) (by show Tp [Ra cR (-(s2.1 (rows.length, a) : Rat)), Ra cR (s2.1 (a, rows.length) : Rat)] = _; rw [z1, z2, zn]; rfl)) (e_tup (a_2 (vr 8) (vr 8)) len2)) (fun _ => w_or1 (t_neB (e_gf fam m.io ((rows, told), s1) (fun _ => rfl) (a_2 (vr 4) (vr 5)) ⟨hvd, hs1⟩) (e_gf fam m.io ((rows2, told2), s2) (fun _ => rfl) (a_2 (vr 6) (vr 7)) ⟨hv2, hs2⟩))) (fun _ => GaLe.refl _))) (by
    show (false || !decide (ioV rows.length s1.1 = ioV rows2.length s2.1)) = false
    rw [l2, io_twn tw hs1 hs2', decide_eq_true rfl]; rfl)) rfl ?_
  have g1 : ∀ s, yV (rows, told) = some s → sG (dG.mk ((rows, told), s) 0 none) := fun s hs => ⟨⟨hvd, hs⟩, by show 0 < rows.length; omega, (Q6.int (n := 0) (B := 0) (by decide)).mono (by decide)⟩
  have g2 : ∀ s, yV (rows2, told2) = some s → sG (dG.mk ((rows2, told2), s) 0 none) := fun s hs => ⟨⟨hv2, hs⟩, by show 0 < rows2.length; omega, (Q6.int (n := 0) (B := 0) (by decide)).mono (by decide)⟩
  refine b_par (P1 := Ls ((gfV rows.length s1.1 0 0).map (Ra cR))) (P2 := Ls ((lfV rows.length s1.1 0 0).map (Ra cR))) (fun l => ps_par (i := 10) (j := 11) rfl nd rfl rfl (by decide) rfl rfl (uA_pa l) (by rfl)) (a_2 (e_lFe m fam (e_gf0 fam m.gf0 (dG.mk ((rows, told), s1) 0 none) (fun _ => rfl) (a_2 (vr 4) (vr 5)) (fun vs G h => vp h) (g1 s1 hs1))) (e_lFe m fam (e_gf0 fam m.lf0 (dG.mk ((rows, told), s1) 0 none) (fun _ => rfl) (a_2 (vr 4) (vr 5)) (fun vs G h => vp h) (g1 s1 hs1)))) ?_
  have f1 : gfV rows2.length s2.1 0 0 = gfV rows.length s1.1 0 0 ++ [(gfV rows.length s1.1 0 0).getD a 0] := by rw [l2]; exact gf_twn tw hs1 hs2'
  have f2 : lfV rows2.length s2.1 0 0 = lfV rows.length s1.1 0 0 ++ [(lfV rows.length s1.1 0 0).getD a 0] := by rw [l2]; exact lf_twn tw hs1 hs2'
  refine b_ret (TyE.eq (e_and (b1 := true) (b2 := true) (v_eqL (qs := gfV rows.length s1.1 0 0 ++ [(gfV rows.length s1.1 0 0).getD a 0]) fam m.r.eq se_ra
      (TyE.eq (e_lFe m fam (e_gf0 fam m.gf0 (dG.mk ((rows2, told2), s2) 0 none) (fun _ => rfl) (a_2 (vr 6) (vr 7)) (fun vs G h => vp h) (g2 s2 hs2))) (congrArg (fun q => Ls (q.map (Ra cR))) f1))
      (TyE.eq (e_op (r := rCat) (fun _ => op_cat) (vr 10) (e_lst (a_1 (e_ixL (fun _ => rfl) (vr 10) (vr 3) (at_map (l := gfV rows.length s1.1 0 0) (g := Ra cR) (d := 0) (by rw [gfV_len]; exact ha)))) len1) (o_cat (by rw [List.length_map, gfV_len, sizeLine_eq]; show rows.length + 1 ≤ _; omega))) ls_snoc))
    (fun _ => e_one (v_eqL (qs := lfV rows.length s1.1 0 0 ++ [(lfV rows.length s1.1 0 0).getD a 0]) fam m.r.eq se_ra
      (TyE.eq (e_lFe m fam (e_gf0 fam m.lf0 (dG.mk ((rows2, told2), s2) 0 none) (fun _ => rfl) (a_2 (vr 6) (vr 7)) (fun vs G h => vp h) (g2 s2 hs2))) (congrArg (fun q => Ls (q.map (Ra cR))) f2))
      (TyE.eq (e_op (r := rCat) (fun _ => op_cat) (vr 11) (e_lst (a_1 (e_ixL (fun _ => rfl) (vr 11) (vr 3) (at_map (l := lfV rows.length s1.1 0 0) (g := Ra cR) (d := 0) (by rw [lfV_len]; exact ha)))) len1) (o_cat (by rw [List.length_map, lfV_len, sizeLine_eq]; show rows.length + 1 ≤ _; omega))) ls_snoc))) (fun _ => GaLe.refl _)) rfl) (OwnAt.imp 0 rfl (poolM_mono (by omega)))
end
end Tf
end
section
/-! An outcome that is never told. -/
namespace Tf
open PySem PySem.Spec PyProof.Rows L2 Ty TL
theorem AllP.snoc {α : Type} {C : α → Prop} {Px : α → Pd} {G : Hp} : ∀ {Ps : List Pd} {vs : List V}, Ty.AllP (Ps ++ [Some' C Px]) vs G → ∃ x, C x ∧ Ty.AllP (Ps ++ [Px x]) vs G
  | [], [v], ⟨⟨x, hx, p⟩, _⟩ => ⟨x, hx, p, trivial⟩
  | [], [], h => h.elim
  | [], _ :: _ :: _, h => h.2.elim
  | P :: Ps, v :: vs, ⟨p, h⟩ => by
    obtain ⟨x, hx, h'⟩ := AllP.snoc h
    exact ⟨x, hx, p, h'⟩
  | _ :: _, [], h => h.elim
theorem row_snoc {C : Int → Prop} {r : List Int} : ∀ v G, (Ls (r.map IsI ++ [Some' C IsI])).p v G → (Some' (fun r' => ∃ x, C x ∧ r' = r ++ [x]) rowP).p v G := fun v G ⟨a, vs, h1, h2, h3⟩ => by
  obtain ⟨x, hx, h4⟩ := AllP.snoc h3
  exact ⟨r ++ [x], ⟨x, hx, rfl⟩, a, vs, h1, h2, by show Ty.AllP ((r ++ [x]).map IsI) vs G; rw [List.map_append]; exact h4⟩
section
variable {P : Program} {w : World} {K : PySem.W.Frag} {mg : Str → Option Value} {base : Heap} {f : Addr} {fd : FuncData} {cR cF cW cU : Addr}
abbrev NUn : List Str := ["_law_pool", "_law_rows", "_law_told", "_law_wider", "_law_one", "_law_rule_here", "_law_two", "_law_other", "_law_near", "_law_far", "_law_row"]
theorem scUn : FnScope NUn ["_law_pool", "_law_rows", "_law_told"] (defScope (top 70)) := ⟨rfl, rfl, rfl, by decide +kernel, rfl, by decide +kernel, by decide +kernel⟩
theorem body_un (m : LawM P w K mg base cR cF cW cU) (d : Nat × dWR) (h : sLaw d) : BodyOk P w K mg base NUn "_law_unused_right" (defScope (top 70)) (defBody (top 70)) 71 (padG NUn (.own (poolM d.1) :: (aLaw d).map .is)) (IsB true) (some (poolM (d.1 + 40))) := by
  intro f cdv Ar outer s H E fam
  obtain ⟨c, rows, told⟩ := d
  have hc : c ≤ 900 := h.c
  have ht : okT rows := h.t
  have hu : okU rows told := h.u
  have nd := scUn.nd
  have n4 := ht.n4
  have n1 := ht.n1
  have m4 := ht.m4
  have hvd := ht.tb.vd hu
  refine ⟨none, ?_, fun _ h => nomatch h⟩
  have at0 : atI (rows.map rowP) ((0 : Nat) : Int) = some (rowP (rows.headD [])) := by
    have := at_map (l := rows) (g := rowP) (k := 0) (d := []) n1
    rw [show rows.getD 0 [] = rows.headD [] by cases rows <;> rfl] at this
    exact this
  have eLen : ∀ {Gx : List Sl} {p q r : Pos}, Gx[1]? = some (.is (Ls (rows.map rowP))) → TyE (bodyX P w K mg base NUn "_law_unused_right" (defScope (top 70)) f cdv Ar outer s H E) Gx (.Call (.Name "len" p) [.Name "_law_rows" q] [] r) (ni rows.length) Gx := fun hx => TyE.eq (e_lenL (fun _ => m.b.len) (fun _ => rfl) (vr 1 (h := hx))) (by rw [List.length_map])
  refine b_guard (t_gt (e_lenL (Ps := (rows.headD []).map IsI) (fun _ => m.b.len) (fun _ => rfl) (e_ixL (fun _ => rfl) (vr 1) e_int at0)) e_int) (decide_eq_false (by rw [List.length_map]; omega)) ?_
  refine b_lcO (ds := rows) (it := rowP) (f := fun r => Some' (fun r' : List Int => ∃ x : Int, x.natAbs ≤ 9 ∧ r' = r ++ [x]) rowP) (M := fun i => poolM (c + i)) 0 3 10 (by decide) rfl (fun _ => nd) (fun _ => rfl) (i_list (fun _ => rfl) (vr 1)) (fun i r hr => ?_) (by rw [sizeLine_eq]; omega) (own0 rfl) ?_
  · have hi := (List.getElem?_eq_some_iff.mp hr).1
    have hrl : r.length ≤ 4 := by rw [ht.eq r (List.mem_of_getElem? hr)]; exact m4
    exact TyE.conv (e_op (r := rCat) (fun _ => op_cat) (vr 10) (e_lst (a_1 (e_op (r := rI0 fun i j => .int (i - j)) (P := Some' (fun x : Int => x.natAbs ≤ 9) IsI) (fun _ => op_sub) (e_draw fam.blk m.dr (c + i) 19 ⟨_, rfl⟩ e_int rfl (by omega)) e_int (o_ex1 fun y hy => OpT.to o_rI0 fun v G p => ⟨_, by show ((y : Int) - 9).natAbs ≤ 9; have hy : y < 19 := hy; omega, p⟩))) len1) (o_cat (by rw [List.length_map, sizeLine_eq]; show r.length + 1 ≤ _; omega))) row_snoc
  refine TyB.weak (Ga := [.own (poolM (c + 4)), .is (Ls (rows.map rowP)), .is (Ls (told.map ni)), .is (Some' (PW (fun (r : List Int) (r' : List Int) => ∃ x : Int, x.natAbs ≤ 9 ∧ r' = r ++ [x]) rows) fun xs => Ls (xs.map rowP)), .any, .any, .any, .any, .any, .any, .any]) ?_ (.cons (.own (poolM_mono (by omega))) (.cons .rfl (.cons .rfl (.cons (.is (Ls.pick (C := fun (r : List Int) (r' : List Int) => ∃ x : Int, x.natAbs ≤ 9 ∧ r' = r ++ [x]) (Px := rowP))) (GaLe.refl _)))))
  refine b_open (k := 3) rfl fun wide hw => ?_
  obtain ⟨htb, ho⟩ := wide_tb ht hw
  have lw : wide.length = rows.length := hw.len
  have hu2 : okU wide told := ⟨by rw [lw]; exact hu.1, fun o hx => by rw [ho]; have := hu.2 o hx; omega⟩
  have hv2 := htb.vd hu2
  have shf : Shf (lossV rows told) (lossV wide told) rows.length fun _ => 0 := wide_shf ht hu hw
  refine b_asg (e_tup (a_2 (e_gf fam m.lp (rows, told) (fun _ => rfl) (a_2 (vr 1) (vr 2)) ⟨ht.tb.wd, ht.tb.ri hu⟩) (e_gf fam m.lp (wide, told) (fun _ => rfl) (a_2 (vr 3) (vr 2)) ⟨htb.wd, htb.ri hu2⟩)) len2) (g_tup2 (fun _ => rfl) (fun _ => rfl) (g_pr 4 5 (fun _ => rfl) (fun _ => rfl) (fun _ => nd)) (g_pr 6 7 (fun _ => rfl) (fun _ => rfl) (fun _ => nd))) ?_
  have eS : (yV (rows, told)).isSome = (yV (wide, told)).isSome := by
    show (fwV (lossV rows told) rows.length).isSome = (fwV (lossV wide told) wide.length).isSome
    rw [lw]; exact shf.some
  refine b_guard (t_neB (e_gf fam m.cb (rows, told) (fun _ => rfl) (a_2 (vr 4) (vr 5)) hvd) (e_gf fam m.cb (wide, told) (fun _ => rfl) (a_2 (vr 6) (vr 7)) hv2)) (by rw [eS, decide_eq_true rfl]; rfl) ?_
  let Ge : List Sl := [.own (poolM (c + 4)), .is (Ls (rows.map rowP)), .is (Ls (told.map ni)), .is (Ls (wide.map rowP)), .is (Wo cW rows), .is (Ru cU told), .is (Wo cW wide), .is (Ru cU told), .any, .any, .any]
  have gle : ∀ {a b : Sl}, GaLe [.own (poolM (c + 4)), .is (Ls (rows.map rowP)), .is (Ls (told.map ni)), .is (Ls (wide.map rowP)), .is (Wo cW rows), .is (Ru cU told), .is (Wo cW wide), .is (Ru cU told), a, b, .any] Ge := fun {a b} => .cons .rfl (.cons .rfl (.cons .rfl (.cons .rfl (.cons .rfl (.cons .rfl (.cons .rfl (.cons .rfl (.cons .any (.cons .any (.cons .any .nil))))))))))
  refine b_if (Gc := Ge) (t_gt (eLen rfl) e_int) (fun hb => ?_) (fun _ => b_nil gle) ?_
  · have h2 : 2 ≤ rows.length := by have := of_decide_eq_true hb; omega
    have h2w : 2 ≤ wide.length := by omega
    refine b_par (P1 := rFW cR cF ((rows, told), lgV (LV (rows, told)) rows.length)) (P2 := rFW cR cF ((wide, told), lgV (LV (wide, told)) wide.length)) (fun l => ps_par (i := 8) (j := 9) rfl nd rfl rfl (by decide) rfl rfl (uA_pa l) (by rfl)) (a_2 (e_gf fam m.nf (rows, told) (fun _ => rfl) (a_2 (vr 4) (vr 5)) ⟨hvd, h2⟩) (e_gf fam m.nf (wide, told) (fun _ => rfl) (a_2 (vr 6) (vr 7)) ⟨hv2, h2w⟩)) ?_
    refine b_open (k := 8) rfl fun near hn => b_open (k := 9) rfl fun far hf => ?_
    have elg : lgV (lossV rows told) rows.length = lgV (lossV wide told) wide.length := by rw [lw]; exact shf.lg h2
    have shf' : Shf (lossV wide told) (lossV rows told) rows.length fun _ => 0 := by have := shf.symm; simpa using this
    have p1 : Pot (lossV wide told) wide.length (lgV (lossV wide told) wide.length) fun i => far.getD i 0 := hf.pot
    have p2 : Pot (lossV rows told) rows.length (lgV (lossV rows told) rows.length) fun i => near.getD i 0 := hn.pot
    have q1 : Pot (lossV rows told) rows.length (lgV (lossV rows told) rows.length) fun i => far.getD i 0 := by
      rw [← elg, lw] at p1
      exact Pot.shf0 shf' p1
    have q2 : Pot (lossV wide told) wide.length (lgV (lossV wide told) wide.length) fun i => near.getD i 0 := by
      rw [← elg, lw]
      exact Pot.shf0 shf p2
    have ln : near.length = rows.length := hn.len
    have lf : far.length = wide.length := hf.len
    refine b_guard (t_ne2 fam m.r.ne (mgV ((rows, told), far), lgV (lossV rows told) rows.length) rfl trivial rfl (e_gf fam m.mo ((rows, told), far) (fun _ => rfl) (a_cons (vr 4) (a_2 (vr 5) (vr 9))) ⟨⟨hvd, lf.trans lw, hf.sz⟩, h2⟩) (e_gf fam m.lg (rows, told) (fun _ => rfl) (a_2 (vr 4) (vr 5)) ⟨hvd, h2⟩)) (by rw [mg_eq h2 q1, decide_eq_true rfl]; rfl) ?_
    refine b_guard (t_ne2 fam m.r.ne (mgV ((wide, told), near), lgV (lossV wide told) wide.length) rfl trivial rfl (e_gf fam m.mo ((wide, told), near) (fun _ => rfl) (a_cons (vr 6) (a_2 (vr 7) (vr 8))) ⟨⟨hv2, ln.trans lw.symm, hn.sz⟩, h2w⟩) (e_gf fam m.lg (wide, told) (fun _ => rfl) (a_2 (vr 6) (vr 7)) ⟨hv2, h2w⟩)) (by rw [mg_eq h2w q2, decide_eq_true rfl]; rfl) ?_
    exact b_nil gle
  · refine b_ret (TyE.eq (e_or (b2 := true) (e_not (e_gf fam m.cb (rows, told) (fun _ => rfl) (a_2 (vr 4) (vr 5)) hvd)) (fun hb => ?_) (fun _ => GaLe.refl _)) (by rw [Bool.or_true])) (OwnAt.imp 0 rfl (poolM_mono (by omega)))
    obtain ⟨s1, hs1⟩ : ∃ s, yV (rows, told) = some s := Option.isSome_iff_exists.mp (by simpa using hb)
    obtain ⟨s2, hs2⟩ : ∃ s, yV (wide, told) = some s := Option.isSome_iff_exists.mp (by rw [← eS, hs1]; rfl)
    have hs2' : fwV (lossV wide told) rows.length = some s2 := by rw [← lw]; exact hs2
    have eqf : lfV wide.length s2.1 0 0 = lfV rows.length s1.1 0 0 := by rw [lw]; exact lf_shf0 shf hs1 hs2' (by omega)
    exact e_one (v_eqL (qs := lfV rows.length s1.1 0 0) fam m.r.eq se_ra
      (e_lFe m fam (e_gf0 fam m.lf0 (dG.mk ((rows, told), s1) 0 none) (fun _ => rfl) (a_2 (vr 4) (vr 5)) (fun vs G h => vp h) ⟨⟨hvd, hs1⟩, by show 0 < rows.length; omega, (Q6.int (n := 0) (B := 0) (by decide)).mono (by decide)⟩))
      (TyE.eq (e_lFe m fam (e_gf0 fam m.lf0 (dG.mk ((wide, told), s2) 0 none) (fun _ => rfl) (a_2 (vr 6) (vr 7)) (fun vs G h => vp h) ⟨⟨hv2, hs2⟩, by show 0 < wide.length; omega, (Q6.int (n := 0) (B := 0) (by decide)).mono (by decide)⟩)) (congrArg (fun q => Ls (q.map (Ra cR))) eqf)))
end
end Tf
end
section
/-! One kind left out. -/
namespace Ty
open PySem PySem.Spec PyProof.Rows L2
open Evl (Ex)
section
variable {ι : Type} {X : ι → Cx} {Ga Gb Gc : List Sl} {e : Expr} {Ps : List Pd} {pos p : Pos} {x fld : Str} {Pr : Program} {w : World} {K : PySem.W.Frag} {mg : Str → Option Value} {base : Heap} {j k : Nat} {C : Addr} {Fs : List (Str × Pd)} {P R : Pd}
theorem c_listO (i : Nat) (hi : Fs[i]? = some (fld, Tp Ps)) (ht : AtF Fs fld i) : CaT (Ow.rListO K C fld) [In C Fs] (Ls Ps) := by
  intro xs G H Q e' p1 kk
  match xs, p1 with
  | [v], p1 =>
    obtain ⟨⟨a, dx, vs, rfl, ho, hp⟩, _⟩ := p1
    obtain ⟨u, hu, t, zs, eu, hz, pz⟩ := fld_at (dx := a) hp hi ht
    subst eu
    refine ⟨a, dx, _, t, zs, rfl, e' _ _ ho, hu, SqT.of (e' _ _ hz), fun H' q ex hn => ?_⟩
    have t1 : Step none G H G H' := ⟨Ex.refl G, Ex.trans e' ex, fun a o _ h => ex a o h, fun a o h => .inl ⟨o, h⟩, fun a h => nomatch h⟩
    have t2 : Step none G H' (upd G q (.lst zs)) (upd H' q (.lst zs)) := Step.new t1.s hn
    exact kk _ _ _ (t1.trans t2) ⟨q, zs, rfl, upd_same, pz.mono t2.k⟩
theorem e_listX (fam : Fam X Pr w K mg base j) (F : Itf Pr w K mg base k C fld) (L : Sf Pr w K mg base k C "__len__" (Ow.spLn K C fld)) (hm : ∀ i, (X i).mg "list" = none) (h : TyE X Ga e P Gb) (hc : CaT (Ow.rListO K C fld) [P] R) (hk : k + 3 ≤ j := by decide)
    (hg : ∀ i, Gl (X i) "list" := by intro i; rfl) (hs : ∀ i, starEach [e] (X i).env = (false, eval e (X i).env) :: starEach [] (X i).env := by intro i; rfl) (hpl : ∀ i, (backTo pos (starEach [] (X i).env)).any (·.1) = false := by intro i; rfl) : TyE X Ga (.Call (.Name "list" p) [e] [] pos) R Gb := by
  obtain ⟨g, Fi, hs', hf⟩ := F.ex
  obtain ⟨gl, Fl, hsl, hfl⟩ := L.ex
  exact e_callTy (r := Ow.rListO K C fld) (fun l => by rw [← fam.K l]; exact Ow.call_listO (fam.calm l) (by rw [fam.K l]; exact hs') (by rw [fam.K l]; exact hf) (by rw [fam.prog l, fam.w l, fam.K l, fam.mg l, fam.base l]; exact Fi) (by rw [fam.K l]; exact hsl) (by rw [fam.K l]; exact hfl) (by rw [fam.prog l, fam.w l, fam.K l, fam.mg l, fam.base l]; exact Fl) ((fam.room l).mono hk)) hg hm bo_list (a_1 h hs) hc (by decide) (by decide) hs hpl
end
end Ty
namespace Tf
open PySem PySem.Spec PyProof.Rows L2 Ty TL
theorem c_lSome {K : PySem.W.Frag} {cR cF : Addr} {C : List Rat → Prop} : CaT (Ow.rListO K cF "amounts") [Some' C fun qs => Fe cR cF qs] (Some' C fun qs => Ls (qs.map (Ra cR))) :=
  c_ex1 fun qs hq => CaT.to (c_listO 0 rfl ⟨rfl, rfl⟩) fun v G p => ⟨qs, hq, p⟩
theorem flt_lv : ∀ n < 5, ∀ a < 5, 3 ≤ n → a < n → ((List.range n).filter fun k => !decide (k = a)) = (List.range (n - 1)).map (lvI a) := by decide
theorem cut_lv {α β : Type} {f : α → β} {l : List α} {a : Nat} : cutL (l.map f) none (some (a : Int)) ++ cutL (l.map f) (some ((a : Int) + 1)) none = (l.take a ++ l.drop (a + 1)).map f := by
  rw [cut_to, show ((a : Int) + 1) = ((a + 1 : Nat) : Int) by omega, cut_from, List.map_append, List.map_take, List.map_drop]
section
variable {ι : Type} {X : ι → Cx} {Ga Gb Gc Gd Ge : List Sl} {e1 e2 e3 e4 : Expr} {p1 p2 p3 p4 p5 : Pos} {K : PySem.W.Frag} {α : Type} {l : List α} {f : α → Pd} {a : Nat}
/-- x[:a] + x[a + 1:] -/
theorem e_lv (hK : ∀ l, (X l).K = K) (h1 : TyE X Ga e1 (Ls (l.map f)) Gb) (h2 : TyE X Gb e2 (ni a) Gc) (h3 : TyE X Gc e3 (Ls (l.map f)) Gd) (h4 : TyE X Gd e4 (IsI ((a : Int) + 1)) Ge) (hl : l.length ≤ 100) (op : ∀ i, OpR (X i) (binaryOp .Add) rCat := by intro i; exact op_cat) :
    TyE X Ga (.BinOp (.Subscript e1 (.Slice none (some e2) none p1) p2) .Add (.Subscript e3 (.Slice (some e4) none none p3) p4) p5) (Ls ((l.take a ++ l.drop (a + 1)).map f)) Ge :=
  TyE.eq (e_op (r := rCat) op (e_slL hK h1 o_non (o_som h2)) (e_slL hK h3 (o_som h4) o_non) (o_cat (by
    rw [← List.length_append, cut_lv, List.length_map, List.length_append, List.length_take, List.length_drop, sizeLine_eq]
    omega))) (congrArg Ls cut_lv)
end
section
variable {rows : List (List Int)} {t : List Nat} {qs : List Rat}
theorem gain_q6 (h : sF ((rows, t), qs)) {p : Nat × Nat} : Q6 (2 ^ 152) (gainV rows t qs p) := by
  have h1 := h.sz p.1
  have h2 := h.sz p.2
  have h3 := Q6.loss h.wr p.1 p.2
  unfold gainV
  exact ((h1.sub h2).sub h3).mono (by decide)
theorem mgV_sz (h : sF ((rows, t), qs)) (h2 : 2 ≤ rows.length) : Sz (mgV ((rows, t), qs)) := by
  obtain ⟨b, _, e, _⟩ := mg_at (t := t) (qs := qs) h2
  rw [e]
  exact (gain_q6 h).sz (by decide)
end
end Tf
end
section
/-! One kind left out, walked. -/
namespace Tf
open PySem PySem.Spec PyProof.Rows L2 Ty TL
section
variable {P : Program} {w : World} {K : PySem.W.Frag} {mg : Str → Option Value} {base : Heap} {f : Addr} {fd : FuncData} {cR cF cW cU : Addr}
abbrev NFr : List Str := ["_law_pool", "_law_rows", "_law_told", "_law_at_here", "_law_fewer", "_law_rest", "_law_one", "_law_rule_here", "_law_two", "_law_other", "_law_pays", "_law_left", "_law_kept", "_law_near", "_law_far", "_law_high", "_law_k"]
theorem scFr : FnScope NFr ["_law_pool", "_law_rows", "_law_told"] (defScope (top 71)) := ⟨rfl, rfl, rfl, by decide +kernel, rfl, by decide +kernel, by decide +kernel⟩
theorem body_fr (m : LawM P w K mg base cR cF cW cU) (d : Nat × dWR) (h : sLaw d) : BodyOk P w K mg base NFr "_law_fewer_right" (defScope (top 71)) (defBody (top 71)) 71 (padG NFr (.own (poolM d.1) :: (aLaw d).map .is)) (IsB true) (some (poolM (d.1 + 40))) := by
  intro f cdv Ar outer s H E fam
  obtain ⟨c, rows, told⟩ := d
  have hc : c ≤ 900 := h.c
  have ht : okT rows := h.t
  have hu : okU rows told := h.u
  have nd := scFr.nd
  have n4 := ht.n4
  have n1 := ht.n1
  have hvd := ht.tb.vd hu
  have lu : told.length = rows.length := hu.1
  refine ⟨none, ?_, fun _ h => nomatch h⟩
  have eLen : ∀ {Gx : List Sl} {p q r : Pos}, Gx[1]? = some (.is (Ls (rows.map rowP))) → TyE (bodyX P w K mg base NFr "_law_fewer_right" (defScope (top 71)) f cdv Ar outer s H E) Gx (.Call (.Name "len" p) [.Name "_law_rows" q] [] r) (ni rows.length) Gx := fun hx => TyE.eq (e_lenL (fun _ => m.b.len) (fun _ => rfl) (vr 1 (h := hx))) (by rw [List.length_map])
  refine b_ifr (t_lt (eLen rfl) e_int) (fun _ => b_ret e_bl (OwnAt.imp 0 rfl (poolM_mono (by omega)))) fun hb => ?_
  have h3 : 3 ≤ rows.length := by have := of_decide_eq_false hb; omega
  refine b_st 3 (fun _ => nd) (e_draw fam m.dr c rows.length ⟨_, rfl⟩ (eLen rfl) rfl (by omega) ⟨n1, by omega⟩) ?_
  refine b_open (k := 3) rfl fun a ha => ?_
  have ha : a < rows.length := ha
  have hat : a < told.length := by omega
  let fewer := rows.take a ++ rows.drop (a + 1)
  let rest := told.take a ++ told.drop (a + 1)
  refine b_st 4 (fun _ => nd) (e_lv (l := rows) (f := rowP) (a := a) (fun _ => rfl) (vr 1) (vr 3) (vr 1) (e_add (vr 3) e_int) (by omega)) ?_
  refine b_st 5 (fun _ => nd) (e_lv (l := told) (f := ni) (a := a) (fun _ => rfl) (vr 2) (vr 3) (vr 2) (e_add (vr 3) e_int) (by omega)) ?_
  have htb : Tb fewer := (lv_tb ht ha h3).1
  have hu2 : okU fewer rest := lv_u ht hu ha h3
  have hv2 := htb.vd hu2
  obtain ⟨n, hn⟩ : ∃ n, rows.length = n + 1 := ⟨rows.length - 1, by omega⟩
  have l2 : fewer.length = n := by have : fewer.length = rows.length - 1 := lv_len ha; omega
  have lv : Lvn (lossV rows told) (lossV fewer rest) n a := lv_lvn hu ha hn
  have n2 : 2 ≤ n := by omega
  have r2 : 2 ≤ rows.length := by omega
  have f2 : 2 ≤ fewer.length := by omega
  refine b_asg (e_tup (a_2 (e_gf fam m.lp (rows, told) (fun _ => rfl) (a_2 (vr 1) (vr 2)) ⟨ht.tb.wd, ht.tb.ri hu⟩) (e_gf fam m.lp (fewer, rest) (fun _ => rfl) (a_2 (vr 4) (vr 5)) ⟨htb.wd, htb.ri hu2⟩)) len2) (g_tup2 (fun _ => rfl) (fun _ => rfl) (g_pr 6 7 (fun _ => rfl) (fun _ => rfl) (fun _ => nd)) (g_pr 8 9 (fun _ => rfl) (fun _ => rfl) (fun _ => nd))) ?_
  refine TyB.weak (Ga := [.own (poolM (c + 1)), .is (Ls (rows.map rowP)), .is (Ls (told.map ni)), .is (ni a), .is (Ls (fewer.map rowP)), .is (Ls (rest.map ni)), .is (Wo cW rows), .is (Ru cU told), .is (Wo cW fewer), .is (Ru cU rest), .any, .any, .any, .any, .any, .any, .any]) ?_ (GaLe.refl _)
  have elg : lgV (lossV fewer rest) fewer.length ≤ lgV (lossV rows told) rows.length := by rw [l2, hn]; exact lv.lg n2
  have esome : (yV (rows, told)).isSome = true → (yV (fewer, rest)).isSome = true := fun hh => by
    obtain ⟨s1, hs1⟩ := Option.isSome_iff_exists.mp hh
    have hs1 : fwV (lossV rows told) rows.length = some s1 := hs1
    rw [hn] at hs1
    obtain ⟨s2, hs2⟩ := lv.some hs1
    show (fwV (lossV fewer rest) fewer.length).isSome = true
    rw [l2, hs2]; rfl
  refine b_guard (b := false) (TyT.eq (t_w (w_or (t_val (e_runder fam m.r (e_gf fam m.lg (rows, told) (fun _ => rfl) (a_2 (vr 6) (vr 7)) ⟨hvd, r2⟩) (e_gf fam m.lg (fewer, rest) (fun _ => rfl) (a_2 (vr 8) (vr 9)) ⟨hv2, f2⟩) (lgV_sz hvd) (lgV_sz hv2))) (fun _ => w_or1 (t_w (w_and (t_val (e_gf fam m.cb (rows, told) (fun _ => rfl) (a_2 (vr 6) (vr 7)) hvd)) (fun _ => w_and1 (t_not (t_val (e_gf fam m.cb (fewer, rest) (fun _ => rfl) (a_2 (vr 8) (vr 9)) hv2)))) (fun _ => GaLe.refl _)))) (fun _ => GaLe.refl _))) (by
    rw [decide_eq_false (show ¬ lgV (LV (rows, told)) rows.length < lgV (LV (fewer, rest)) fewer.length from Rat.not_lt.mpr elg)]
    cases e1 : (yV (rows, told)).isSome with
    | false => rfl
    | true => rw [esome e1]; rfl)) rfl ?_
  -- nearest fees
  refine b_st 10 (fun _ => nd) (P := Some' (FeOk (lossV rows told) rows.length (lgV (lossV rows told) rows.length)) fun qs => Ls (qs.map (Ra cR))) (e_listX fam m.itF m.lnF (fun i => by rw [fam.mg i]; exact m.b.list) (e_gf fam m.nf (rows, told) (fun _ => rfl) (a_2 (vr 6) (vr 7)) ⟨hvd, r2⟩) c_lSome) ?_
  refine b_open (k := 10) rfl fun pays hp => ?_
  have lp : pays.length = rows.length := hp.len
  have hap : a < pays.length := by omega
  have hpq : ∀ q ∈ pays, Sz q := fun q hq => by
    obtain ⟨k, hk, rfl⟩ := List.getElem_of_mem hq
    have := hp.sz k
    rw [List.getD_eq_getElem?_getD, List.getElem?_eq_getElem hk] at this
    exact this.sz (by decide)
  let left := pays.take a ++ pays.drop (a + 1)
  have ll : left.length = n := by have : left.length = pays.length - 1 := lv_len hap; omega
  have hlq : ∀ q ∈ left, Sz q := fun q hq => hpq q (lv_mem hq)
  have hlg : ∀ k, left.getD k 0 = pays.getD (lvI a k) 0 := fun k => lv_getD hap
  have fL : sF ((fewer, rest), left) := ⟨hv2, ll.trans l2.symm, fun k => by show Q6 _ (left.getD k 0); rw [hlg]; exact hp.sz _⟩
  have fP : sF ((rows, told), pays) := ⟨hvd, lp, hp.sz⟩
  refine b_st 11 (fun _ => nd) (e_gf fam m.lf left (fun _ => rfl) (a_1 (e_lv (l := pays) (f := Ra cR) (a := a) (fun _ => rfl) (vr 10) (vr 3) (vr 10) (e_add (vr 3) e_int) (by omega))) ⟨by omega, by omega, hlq⟩) ?_
  have em : mgV ((fewer, rest), left) ≤ mgV ((rows, told), pays) := by
    rw [mg_eq r2 hp.pot]
    refine mg_le f2 ?_
    have := hp.pot
    rw [hn] at this
    have := lv.pot this
    rw [l2, hn]
    simpa only [hlg] using this
  refine b_guard (b := false) (TyT.eq (t_val (e_runder fam m.r (e_gf fam m.mo ((rows, told), pays) (fun _ => rfl) (a_cons (vr 6) (a_2 (vr 7) (e_gf fam m.lf pays (fun _ => rfl) (a_1 (vr 10)) ⟨by omega, by omega, hpq⟩))) ⟨fP, r2⟩) (e_gf fam m.mo ((fewer, rest), left) (fun _ => rfl) (a_cons (vr 8) (a_2 (vr 9) (vr 11))) ⟨fL, f2⟩) (mgV_sz fP r2) (mgV_sz fL f2))) (decide_eq_false (Rat.not_lt.mpr em))) rfl ?_
  refine b_ifr (t_not (t_val (e_gf fam m.cb (rows, told) (fun _ => rfl) (a_2 (vr 6) (vr 7)) hvd))) (fun _ => b_ret e_bl (OwnAt.imp 0 rfl (poolM_mono (by omega)))) fun hb => ?_
  obtain ⟨s1, hs1⟩ : ∃ s, yV (rows, told) = some s := Option.isSome_iff_exists.mp (by simpa using hb)
  obtain ⟨s2, hs2⟩ : ∃ s, yV (fewer, rest) = some s := Option.isSome_iff_exists.mp (esome (by rw [hs1]; rfl))
  have hs1' : fwV (lossV rows told) (n + 1) = some s1 := by rw [← hn]; exact hs1
  have hs2' : fwV (lossV fewer rest) n = some s2 := by rw [← l2]; exact hs2
  have ef : ((List.range rows.length).filter fun k => !decide (k = a)) = (List.range n).map (lvI a) := by
    have := flt_lv rows.length (by omega) a (by omega) h3 ha
    rwa [show rows.length - 1 = n by omega] at this
  refine TyB.weak (Ga := [.own (poolM (c + 1)), .is (Ls (rows.map rowP)), .is (Ls (told.map ni)), .is (ni a), .any, .any, .is (Wo cW rows), .is (Ru cU told), .is (Wo cW fewer), .is (Ru cU rest), .any, .any, .any, .any, .any, .any, .any]) ?_ (.cons .rfl (.cons .rfl (.cons .rfl (.cons .rfl (.cons .any (.cons .any (.cons .rfl (.cons .rfl (.cons .rfl (.cons .rfl (.cons .any (.cons .any (GaLe.refl _)))))))))))))
  refine b_lcF (ds := List.range rows.length) (it := ni) (f := ni) (t := fun k => !decide (k = a)) 12 16 (fun _ => nd) (fun _ => rfl) (i_rng (fun _ => m.b.range) (eLen rfl) (by omega)) (fun k hk => TyT.eq (t_ne (vr 16) (vr 3)) (by congr 1; exact decide_eq_decide.mpr (by omega))) (fun k hk _ => vr 16) (by rw [rg_len, sizeLine_eq]; omega) (fun i M h z => by subst z; cases h) ?_
  refine TyB.weak (Ga := [.own (poolM (c + 1)), .is (Ls (rows.map rowP)), .is (Ls (told.map ni)), .is (ni a), .any, .any, .is (Wo cW rows), .is (Ru cU told), .is (Wo cW fewer), .is (Ru cU rest), .any, .any, .is (Ls (((List.range n).map (lvI a)).map ni)), .any, .any, .any, .any]) ?_ (by rw [← ef]; exact GaLe.refl _)
  have c1 := fw_clo hs1'
  have i0 : lvI a 0 < n + 1 := lvI_lt (by omega)
  have i1 : lvI a 1 < n + 1 := lvI_lt (by omega)
  have lk : ((List.range n).map (lvI a)).length = n := by rw [List.length_map, List.length_range]
  have k0 : atI (((List.range n).map (lvI a)).map ni) ((0 : Nat) : Int) = some (ni (lvI a 0)) := by
    have := at_map (l := (List.range n).map (lvI a)) (g := ni) (k := 0) (d := 0) (by omega)
    rwa [getD_rng (by omega)] at this
  have k1 : atI (((List.range n).map (lvI a)).map ni) ((1 : Nat) : Int) = some (ni (lvI a 1)) := by
    have := at_map (l := (List.range n).map (lvI a)) (g := ni) (k := 1) (d := 0) (by omega)
    rwa [getD_rng (by omega)] at this
  refine b_par (P1 := Tp [Ra cR (-(s1.1 (lvI a 1, lvI a 0) : Rat)), Ra cR (s1.1 (lvI a 0, lvI a 1) : Rat)]) (P2 := Tp [Ra cR (-(s2.1 (1, 0) : Rat)), Ra cR (s2.1 (0, 1) : Rat)]) (fun l => ps_par (i := 13) (j := 14) rfl nd rfl rfl (by decide) rfl rfl (uA_pa l) (by rfl)) (a_2
    (e_gf fam m.sp (((rows, told), s1), (lvI a 0, lvI a 1)) (fun _ => rfl) (a_cons (vr 6) (a_cons (vr 7) (a_2 (e_ixL (fun _ => rfl) (vr 12) e_int k0) (e_ixL (fun _ => rfl) (vr 12) e_int k1)))) ⟨⟨hvd, hs1⟩, by show lvI a 0 < rows.length; omega, by show lvI a 1 < rows.length; omega⟩)
    (e_gf fam m.sp (((fewer, rest), s2), (0, 1)) (fun _ => rfl) (a_cons (vr 8) (a_cons (vr 9) (a_2 e_int e_int))) ⟨⟨hv2, hs2⟩, by show 0 < fewer.length; omega, by show 1 < fewer.length; omega⟩)) ?_
  refine b_st 15 (fun _ => nd) (e_lFe m fam (e_gf0 fam m.gf0 (dG.mk ((rows, told), s1) 0 none) (fun _ => rfl) (a_2 (vr 6) (vr 7)) (fun vs G h => vp h) ⟨⟨hvd, hs1⟩, by show 0 < rows.length; omega, (Q6.int (n := 0) (B := 0) (by decide)).mono (by decide)⟩)) ?_
  let high := gfV rows.length s1.1 0 0
  have lh : high.length = rows.length := gfV_len
  refine TyB.weak (Ga := [.own (poolM (c + 1)), .is (Ls (rows.map rowP)), .is (Ls (told.map ni)), .is (ni a), .any, .any, .is (Wo cW rows), .is (Ru cU told), .is (Wo cW fewer), .is (Ru cU rest), .any, .any, .any, .is (Tp [Ra cR (-(s1.1 (lvI a 1, lvI a 0) : Rat)), Ra cR (s1.1 (lvI a 0, lvI a 1) : Rat)]), .is (Tp [Ra cR (-(s2.1 (1, 0) : Rat)), Ra cR (s2.1 (0, 1) : Rat)]), .is (Ls (high.map (Ra cR))), .any]) ?_ (.cons .rfl (.cons .rfl (.cons .rfl (.cons .rfl (.cons .rfl (.cons .rfl (.cons .rfl (.cons .rfl (.cons .rfl (.cons .rfl (.cons .rfl (.cons .rfl (.cons .any (GaLe.refl _))))))))))))))
  have m1 := lv.sum hs1' hs2' (i := 1) (j := 0) (by omega) (by omega)
  have m2 := lv.sum hs1' hs2' (i := 0) (j := 1) (by omega) (by omega)
  have sz1 : ∀ i j, i < n + 1 → j < n + 1 → Q6 (2 ^ 90) (s1.1 (i, j) : Rat) := fun i j hi hj => Q6.sum hvd hs1 (by omega) (by omega)
  have sz2 : ∀ i j, i < n → j < n → Q6 (2 ^ 90) (s2.1 (i, j) : Rat) := fun i j hi hj => Q6.sum hv2 hs2 (by omega) (by omega)
  refine b_guard (b := false) (TyT.eq (t_w (w_or (t_val (e_runder fam m.r (e_ixT (fun _ => rfl) (vr 13) e_int (atI_nat (k := 0) rfl)) (e_ixT (fun _ => rfl) (vr 14) e_int (atI_nat (k := 0) rfl)) ((sz1 _ _ i1 i0).neg.sz (by decide)) ((sz2 1 0 (by omega) (by omega)).neg.sz (by decide)))) (fun _ => w_or1 (t_val (e_runder fam m.r (e_ixT (fun _ => rfl) (vr 14) e_int (atI_nat (k := 1) rfl)) (e_ixT (fun _ => rfl) (vr 13) e_int (atI_nat (k := 1) rfl)) ((sz2 0 1 (by omega) (by omega)).sz (by decide)) ((sz1 _ _ i0 i1).sz (by decide))))) (fun _ => GaLe.refl _))) (by
    have m1' : (s1.1 (lvI a 1, lvI a 0) : Rat) ≤ (s2.1 (1, 0) : Rat) := Rat.intCast_le_intCast.mpr m1
    have m2' : (s1.1 (lvI a 0, lvI a 1) : Rat) ≤ (s2.1 (0, 1) : Rat) := Rat.intCast_le_intCast.mpr m2
    rw [decide_eq_false (show ¬ (-(s1.1 (lvI a 1, lvI a 0) : Rat)) < -(s2.1 (1, 0) : Rat) by grind), decide_eq_false (show ¬ (s2.1 (0, 1) : Rat) < (s1.1 (lvI a 0, lvI a 1) : Rat) by grind)]
    rfl)) rfl ?_
  let hq := high.take a ++ high.drop (a + 1)
  have lhq : hq.length = n := by have : hq.length = high.length - 1 := lv_len (by omega); omega
  have hhq : ∀ k, hq.getD k 0 = high.getD (lvI a k) 0 := fun k => lv_getD (by omega)
  have hq6 : ∀ k, Q6 (2 ^ 100) (high.getD k 0) := fun k => by
    by_cases ck : k < rows.length
    · show Q6 _ ((gfV rows.length s1.1 0 0).getD k 0)
      unfold gfV
      rw [getD_rng ck]
      exact ((Q6.int (n := 0) (B := 0) (by decide)).add (sz1 k 0 (by omega) (by omega))).mono (by decide)
    · rw [getD_out (by omega)]; exact (Q6.int (n := 0) (B := 0) (by decide)).mono (by decide)
  have hsz : ∀ q ∈ high, Sz q := fun q hq => by
    obtain ⟨k, hk, rfl⟩ := List.getElem_of_mem hq
    have := hq6 k
    rw [List.getD_eq_getElem?_getD, List.getElem?_eq_getElem hk] at this
    exact this.sz (by decide)
  have fH : sF ((fewer, rest), hq) := ⟨hv2, lhq.trans l2.symm, fun k => by show Q6 _ (hq.getD k 0); rw [hhq]; exact (hq6 _).mono (by decide)⟩
  have eT : isTV ((fewer, rest), hq) = true := isT_of (by
    have := lv.pot (c1.pot (k := 0) (by omega))
    rw [l2]
    refine fun i j hi hj hne => ?_
    have h1 := this i j hi hj hne
    have e2 : ∀ i, i < n → hq.getD i 0 = (s1.1 (lvI a i, 0) : Rat) := fun i hi => by
      rw [hhq]
      show (gfV rows.length s1.1 0 0).getD _ 0 = _
      have := lvI_lt (a := a) hi
      unfold gfV
      rw [getD_rng (by omega)]
      grind
    show hq.getD i 0 - hq.getD j 0 ≤ _
    rw [e2 i hi, e2 j hj]
    exact h1)
  exact b_ret (TyE.eq (e_gf fam m.it ((fewer, rest), hq) (fun _ => rfl) (a_cons (vr 8) (a_2 (vr 9) (e_gf fam m.lf hq (fun _ => rfl) (a_1 (e_lv (l := high) (f := Ra cR) (a := a) (fun _ => rfl) (vr 15) (vr 3) (vr 15) (e_add (vr 3) e_int) (by omega))) ⟨by omega, by omega, fun q h => hsz q (lv_mem h)⟩))) fH) (by rw [eT])) (OwnAt.imp 0 rfl (poolM_mono (by omega)))
end
end Tf
end
section
/-! One worth exchanged, tables added. -/
namespace Tf
open Ty
theorem row_bd {rows : List (List Int)} {B a : Nat} (h : ∀ r ∈ rows, ∀ x ∈ r, x.natAbs ≤ B) : ∀ x ∈ rows.getD a [], x.natAbs ≤ B := fun x hx => by
  by_cases c : a < rows.length
  · exact h _ (getD_mem c) x hx
  · rw [getD_out c] at hx; cases hx
structure Bn (rows t : List (List Int)) (B : Nat) : Prop where
  rc : Rc t
  len : t.length = rows.length
  hd : (t.headD []).length = (rows.headD []).length
  bd : ∀ r ∈ t, ∀ x ∈ r, x.natAbs ≤ B
theorem Bn.tb {rows t : List (List Int)} {B : Nat} (h : Bn rows t B) (hB : B ≤ 2 ^ 80) : Tb t := ⟨h.rc, fun r hr x hx => Nat.le_trans (h.bd r hr x hx) hB⟩
theorem bent_bn {rows : List (List Int)} {a o : Nat} {x : Int} (h : okT rows) (ha : a < rows.length) (hx : x.natAbs ≤ 4) : Bn rows (setW rows a o x) (2 ^ 70) := by
  obtain ⟨h1, h2⟩ := setW_rc (o := o) (x := x) h.tb.rc ha
  refine ⟨h1, List.length_set, h2, fun r hr y hy => ?_⟩
  rcases List.mem_or_eq_of_mem_set hr with h' | h'
  · exact h.bd r h' y hy
  · rw [h'] at hy
    rcases List.mem_or_eq_of_mem_set hy with h'' | h''
    · exact row_bd h.bd y h''
    · rw [h'']; exact Nat.le_trans hx (by decide)
theorem more_bn {rows more : List (List Int)} (h : okT rows) (hm : PW (fun (r : List Int) (r' : List Int) => PW (fun (_ : Int) (x : Int) => x.natAbs ≤ 2) r r') rows more) : Bn rows more 2 := by
  have hl := hm.len
  have h4 := h.n4
  have m4 := h.m4
  obtain ⟨a, b⟩ := rc_of (rows := more) (n := rows.length) (o := (rows.headD []).length) hl h.n1 (by omega) (fun r' hr' => by
    obtain ⟨r, hr, hp⟩ := hm.mem r' hr'
    exact hp.len.trans (h.eq r hr)) h.m1 (by omega)
  refine ⟨a, hl, b, fun r' hr' x hx => ?_⟩
  obtain ⟨r, hr, hp⟩ := hm.mem r' hr'
  obtain ⟨_, _, h2⟩ := hp.mem x hx
  exact h2
theorem sums_wa {rows b m : List (List Int)} {B C : Nat} (hb : Bn rows b B) (hm : Bn rows m C) : sWA (b, m) := ⟨hb.rc, hm.rc, hb.len.trans hm.len.symm, hb.hd.trans hm.hd.symm⟩
theorem addW_len {rows b m : List (List Int)} {B C : Nat} (hb : Bn rows b B) (hm : Bn rows m C) : (addW b m).length = rows.length := by
  unfold addW; rw [List.length_map, List.length_zip, hb.len, hm.len, Nat.min_self]
theorem sums_bn {rows b m : List (List Int)} {B C : Nat} (hr : Rc rows) (hb : Bn rows b B) (hm : Bn rows m C) : Bn rows (addW b m) (B + C) := by
  have rc := (sums_wa hb hm).rc
  refine ⟨rc, addW_len hb hm, ?_, fun r hr x hx => ?_⟩
  · have n1 := hr.n1
    have hl := addW_len hb hm
    have hh : ∀ r ∈ addW b m, r.length = (rows.headD []).length := fun r hr => by
      unfold addW at hr
      obtain ⟨z, hz, rfl⟩ := List.mem_map.mp hr
      have h1 := hb.rc.eq z.1 (List.of_mem_zip hz).1
      have h2 := hm.rc.eq z.2 (List.of_mem_zip hz).2
      unfold addR
      rw [List.length_map, List.length_zip, h1, h2, hb.hd, hm.hd, Nat.min_self]
    cases e : addW b m with
    | nil => rw [e] at hl; simp at hl; omega
    | cons a r => exact hh a (by rw [e]; exact List.mem_cons_self)
  · unfold addW at hr
    obtain ⟨z, hz, rfl⟩ := List.mem_map.mp hr
    unfold addR at hx
    obtain ⟨y, hy, rfl⟩ := List.mem_map.mp hx
    have h1 := hb.bd z.1 (List.of_mem_zip hz).1 y.1 (List.of_mem_zip hy).1
    have h2 := hm.bd z.2 (List.of_mem_zip hz).2 y.2 (List.of_mem_zip hy).2
    omega
theorem sums_rng {rows b m : List (List Int)} {B C : Nat} (hb : Bn rows b B) (hm : Bn rows m C) : ((List.range rows.length).map fun k => addR (b.getD k []) (m.getD k [])) = addW b m := by
  show _ = (b.zip m).map fun z => addR z.1 z.2
  have hl := addW_len hb hm
  unfold addW at hl
  apply List.ext_getElem
  · rw [List.length_map, List.length_range, hl]
  · intro i h1 h2
    have hi : i < rows.length := by rwa [List.length_map, List.length_range] at h1
    have b1 : i < b.length := by rw [hb.len]; exact hi
    have m1 : i < m.length := by rw [hm.len]; exact hi
    rw [List.getElem_map, List.getElem_map, List.getElem_zip, List.getElem_range, List.getD_eq_getElem?_getD, List.getD_eq_getElem?_getD, List.getElem?_eq_getElem b1, List.getElem?_eq_getElem m1]
    rfl
theorem bn_u {rows t : List (List Int)} {u : List Nat} {B : Nat} (h : Bn rows t B) (hu : okU rows u) : okU t u := ⟨by rw [h.len]; exact hu.1, fun o ho => by rw [h.hd]; exact hu.2 o ho⟩
theorem set_u {rows : List (List Int)} {u : List Nat} {a o : Nat} (hu : okU rows u) (ho : o < (rows.headD []).length) : okU rows (u.set a o) := ⟨by rw [List.length_set]; exact hu.1, fun x hx => by
  rcases List.mem_or_eq_of_mem_set hx with h | h
  · exact hu.2 x h
  · rw [h]; exact ho⟩
theorem set_cut {u : List Nat} {a o : Nat} (ha : a < u.length) : u.take a ++ [o] ++ u.drop (a + 1) = u.set a o := by
  rw [List.set_eq_take_append_cons_drop, if_pos ha, List.append_assoc]
  rfl
end Tf
end
section
/-! Worths and rules that are handed on. -/
namespace Tf
open PySem PySem.Spec PyProof.Rows L2 Ty TL
def niD (t : List Nat) : PyData := .list (t.map fun n : Nat => .int (n : Int))
theorem dq_nis {K : PySem.W.Frag} (t : List Nat) : Dq K (Ls (t.map ni)) (niD t) := dq_ls (g := fun n : Nat => .int (n : Int)) (fun n => dq_int) t
theorem eqv_nis (a b : List Nat) : PyData.eqv (niD a) (niD b) = true ↔ a = b := eqv_ls (fun i j => by rw [eqv_int]; omega) a b
theorem depth_nis (t : List Nat) : (niD t).depth ≤ 64 := by
  unfold niD PyData.depth
  have := depth_all (g := fun n : Nat => PyData.int (n : Int)) (k := 0) (fun a => by simp [PyData.depth]) t
  omega
theorem ls_three {u : List Nat} {a o : Nat} (ha : a < u.length) : Ls (cutL (u.map ni) none (some (a : Int)) ++ [ni o] ++ cutL (u.map ni) (some ((a : Int) + 1)) none) = Ls ((u.set a o).map ni) := by
  rw [cut_to, show ((a : Int) + 1) = ((a + 1 : Nat) : Int) by omega, cut_from, ← set_cut ha, List.map_append, List.map_append, List.map_take, List.map_drop]
  rfl
abbrev worM (r r' : List Int) : Prop := PW (fun (_ : Int) (x : Int) => x.natAbs ≤ 2) r r'
section
variable {P : Program} {w : World} {K : PySem.W.Frag} {mg : Str → Option Value} {base : Heap} {f : Addr} {fd : FuncData} {cR cF cW cU : Addr}
abbrev NHa : List Str := ["_law_pool", "_law_rows", "_law_told", "_law_at_here", "_law_out", "_law_worth", "_law_bent", "_law_more", "_law_sums", "_law_one", "_law_rule_here", "_law_made", "_law_other", "_law_due", "_law_left", "_law_right", "_law_ring", "_law_row", "_law_number", "_law_pair_here", "_law_k"]
theorem scHa : FnScope NHa ["_law_pool", "_law_rows", "_law_told"] (defScope (top 72)) := ⟨rfl, rfl, rfl, by decide +kernel, rfl, by decide +kernel, by decide +kernel⟩
theorem body_ha (m : LawM P w K mg base cR cF cW cU) (d : Nat × dWR) (h : sLaw d) : BodyOk P w K mg base NHa "_law_handed_right" (defScope (top 72)) (defBody (top 72)) 71 (padG NHa (.own (poolM d.1) :: (aLaw d).map .is)) (IsB true) (some (poolM (d.1 + 40))) := by
  intro f cdv Ar outer s H E fam
  obtain ⟨c, rows, told⟩ := d
  have hc : c ≤ 900 := h.c
  have ht : okT rows := h.t
  have hu : okU rows told := h.u
  have nd := scHa.nd
  have n4 := ht.n4
  have n1 := ht.n1
  have m4 := ht.m4
  have m1 := ht.m1
  have hvd := ht.tb.vd hu
  have lu : told.length = rows.length := hu.1
  refine ⟨none, ?_, fun _ h => nomatch h⟩
  have at0 : atI (rows.map rowP) ((0 : Nat) : Int) = some (rowP (rows.headD [])) := by
    have := at_map (l := rows) (g := rowP) (k := 0) (d := []) n1
    rw [show rows.getD 0 [] = rows.headD [] by cases rows <;> rfl] at this
    exact this
  have eLen : ∀ {Gx : List Sl} {p q r : Pos}, Gx[1]? = some (.is (Ls (rows.map rowP))) → TyE (bodyX P w K mg base NHa "_law_handed_right" (defScope (top 72)) f cdv Ar outer s H E) Gx (.Call (.Name "len" p) [.Name "_law_rows" q] [] r) (ni rows.length) Gx := fun hx => TyE.eq (e_lenL (fun _ => m.b.len) (fun _ => rfl) (vr 1 (h := hx))) (by rw [List.length_map])
  generalize ho : (rows.headD []).length = outs at *
  refine b_par (P1 := drP rows.length) (P2 := drP outs) (fun l => ps_par (i := 3) (j := 4) rfl nd rfl rfl (by decide) rfl rfl (uA_pa l) (by rfl)) (a_2 (e_draw fam m.dr c rows.length ⟨_, rfl⟩ (eLen rfl) rfl (by omega) ⟨n1, by omega⟩) (e_draw fam m.dr (c + 1) outs ⟨_, rfl⟩ (TyE.eq (e_lenL (Ps := (rows.headD []).map IsI) (fun _ => m.b.len) (fun _ => rfl) (e_ixL (fun _ => rfl) (vr 1) e_int at0)) (by rw [List.length_map, ho])) rfl (by omega) ⟨by omega, by omega⟩)) ?_
  refine b_open (k := 3) rfl fun a ha => b_open (k := 4) rfl fun o hoo => ?_
  have ha : a < rows.length := ha
  have hoo : o < outs := hoo
  refine b_st 5 (fun _ => nd) (P := Some' (fun x : Int => x.natAbs ≤ 4) IsI) (e_op (r := rI0 fun i j => .int (i - j)) (fun _ => op_sub) (e_draw fam m.dr (c + 2) 9 ⟨_, rfl⟩ e_int rfl (by omega)) e_int (o_ex1 fun y hy => OpT.to o_rI0 fun v G p => ⟨_, by show ((y : Int) - 4).natAbs ≤ 4; have hy : y < 9 := hy; omega, p⟩)) ?_
  refine b_open (k := 5) rfl fun x hx => ?_
  have hx : x.natAbs ≤ 4 := hx
  refine TyB.weak (Ga := [.own (poolM (c + 3)), .is (Ls (rows.map rowP)), .is (Ls (told.map ni)), .is (ni a), .is (ni o), .is (IsI x), .any, .any, .any, .any, .any, .any, .any, .any, .any, .any, .any, .any, .any, .any, .any]) ?_ (GaLe.refl _)
  -- bent
  have hg : rows[a]? = some (rows.getD a []) := by rw [List.getD_eq_getElem?_getD, List.getElem?_eq_getElem ha]; rfl
  let bent := setW rows a o x
  have bB : Bn rows bent (2 ^ 70) := bent_bn ht ha hx
  refine b_copysetC (ds := rows) (it := rowP) (Ps := fun r => r.map IsI) (r := a) (c := o) (d0 := rows.getD a []) 6 17 3 4 5 (fun _ => rfl) (fun _ => nd) (fun _ => rfl) (i_list (fun _ => rfl) (vr 1)) (fun y hy => n_listSq (fun _ => m.b.list) (fun _ => rfl) (vr 17) fun _ _ h => Ls.sq h) (by rw [sizeLine_eq]; omega) (fun i M h z => by subst z; cases h) hg (by rw [List.length_map, ht.eq _ (getD_mem ha), ho]; exact hoo) (fun _ => pv 6) (fun _ => pv 3) (fun _ => pv 4) (fun _ => pv 5) rfl rfl rfl ⟨by decide, by decide, by decide⟩ (of_decide_eq_true rfl) ?_
  refine TyB.weak (Ga := [.own (poolM (c + 3)), .is (Ls (rows.map rowP)), .is (Ls (told.map ni)), .is (ni a), .is (ni o), .is (IsI x), .is (Ls (bent.map rowP)), .any, .any, .any, .any, .any, .any, .any, .any, .any, .any, .any, .any, .any, .any]) ?_ (.cons .rfl (.cons .rfl (.cons .rfl (.cons .rfl (.cons .rfl (.cons .rfl (.cons (.is fun v G hp => by
    show (Ls ((setW rows a o x).map rowP)).p v G
    unfold setW
    rw [List.map_set]
    unfold rowP
    rw [List.map_set]
    exact hp) (GaLe.refl _))))))))
  -- more
  refine b_st 7 (fun _ => nd) (P := Some' (PW worM rows) fun xs => Ls (xs.map rowP)) (TyE.conv (e_lcO (ds := rows) (it := rowP) (f := fun r => Some' (worM r) rowP) (M := fun i => poolM (c + 3 + outs * i)) 0 17 (by decide) rfl (fun _ => nd) (fun _ => rfl) (i_list (fun _ => rfl) (vr 1)) (fun i r hr => ?_) (by rw [sizeLine_eq]; omega) (own0 rfl)) (Ls.pick (C := worM) (Px := rowP))) ?_
  · have hi := (List.getElem?_eq_some_iff.mp hr).1
    have hrl : r.length = outs := by rw [ht.eq r (List.mem_of_getElem? hr), ho]
    subst hrl
    have hm4 : r.length * i ≤ 16 := Nat.le_trans (Nat.mul_le_mul m4 (show i ≤ 4 by omega)) (by decide)
    refine TyE.conv (P := Ls (r.map fun _ => Some' (fun x : Int => x.natAbs ≤ 2) IsI)) ?_ (Ls.pick (C := fun (_ : Int) (x : Int) => x.natAbs ≤ 2) (Px := IsI))
    refine e_lcO (Gb := [.own (poolM (c + 3 + r.length * i)), .is (Ls (rows.map rowP)), .is (Ls (told.map ni)), .is (ni a), .is (ni o), .is (IsI x), .is (Ls (bent.map rowP)), .any, .any, .any, .any, .any, .any, .any, .any, .any, .any, .is (rowP r), .any, .any, .any]) (ds := r) (it := IsI) (f := fun _ => Some' (fun x : Int => x.natAbs ≤ 2) IsI) (M := fun j => poolM (c + 3 + (r.length * i + j))) 0 18 (by decide) rfl (fun _ => nd) (fun _ => rfl) (i_list (fun _ => rfl) (vr 17)) (fun j y hy => ?_) (by rw [sizeLine_eq]; omega) (own0 rfl)
    have hj := (List.getElem?_eq_some_iff.mp hy).1
    exact e_op (r := rI0 fun i j => .int (i - j)) (fun _ => op_sub) (e_draw fam.blk.blk m.dr (c + 3 + (r.length * i + j)) 5 ⟨_, rfl⟩ e_int rfl (by omega)) e_int (o_ex1 fun y hy => OpT.to o_rI0 fun v G p => ⟨_, by show ((y : Int) - 2).natAbs ≤ 2; have hy : y < 5 := hy; omega, p⟩)
  refine b_open (k := 7) rfl fun more hm => ?_
  have mB : Bn rows more 2 := more_bn ht hm
  let sums := addW bent more
  have sB : Bn rows sums (2 ^ 70 + 2) := sums_bn ht.tb.rc bB mB
  have hom : outs * rows.length ≤ 16 := Nat.le_trans (Nat.mul_le_mul m4 n4) (by decide)
  refine TyB.weak (Ga := [.own (poolM (c + 19)), .is (Ls (rows.map rowP)), .is (Ls (told.map ni)), .is (ni a), .is (ni o), .is (IsI x), .is (Ls (bent.map rowP)), .is (Ls (more.map rowP)), .any, .any, .any, .any, .any, .any, .any, .any, .any, .any, .any, .any, .any]) ?_ (.cons (.own (poolM_mono (by omega))) (GaLe.refl _))
  -- sums
  refine b_lcN (ds := List.range rows.length) (it := ni) (f := fun k => rowP (addR (bent.getD k []) (more.getD k []))) 8 20 (fun _ => nd) (fun _ => rfl) (i_rng (fun _ => m.b.range) (eLen rfl) (by omega)) (fun k hk => ?_) (by rw [rg_len, sizeLine_eq]; omega) (fun i M h z => by subst z; cases h) ?_
  · have hk := List.mem_range.mp hk
    have b1 : k < bent.length := by rw [bB.len]; exact hk
    have m1 : k < more.length := by rw [mB.len]; exact hk
    have h1 := bB.rc.row b1
    have h2 := bB.rc.m6
    refine TyE.eq (e_lcN (ds := (bent.getD k []).zip (more.getD k [])) (it := fun z => Tp [IsI z.1, IsI z.2]) (f := fun z => IsI (z.1 + z.2)) 19 (fun _ => nd) (fun _ => rfl) (i_zipN (f := IsI) (g := IsI) (fun _ => rfl) (fun _ => m.b.zip) (a_2 (e_ixL (fun _ => rfl) (vr 6) (vr 20) (at_map (l := bent) (g := rowP) (d := []) b1)) (e_ixL (fun _ => rfl) (vr 7) (vr 20) (at_map (l := more) (g := rowP) (d := []) m1)))) (fun z hz => e_add (e_ixT (fun _ => rfl) (vr 19) e_int (atI_nat (k := 0) rfl)) (e_ixT (fun _ => rfl) (vr 19) e_int (atI_nat (k := 1) rfl))) (by rw [List.length_zip, sizeLine_eq]; omega) (fun i M h z => by subst z; cases h)) (by unfold rowP addR; rw [List.map_map]; rfl)
  refine TyB.weak (Ga := [.own (poolM (c + 19)), .is (Ls (rows.map rowP)), .is (Ls (told.map ni)), .is (ni a), .is (ni o), .is (IsI x), .is (Ls (bent.map rowP)), .is (Ls (more.map rowP)), .is (Ls (sums.map rowP)), .any, .any, .any, .any, .any, .any, .any, .any, .any, .any, .any, .any]) ?_ (.cons .rfl (.cons .rfl (.cons .rfl (.cons .rfl (.cons .rfl (.cons .rfl (.cons .rfl (.cons .rfl (.cons (.is fun v G hp => by
    show (Ls ((addW bent more).map rowP)).p v G
    rw [← sums_rng bB mB, List.map_map]
    exact hp) (GaLe.refl _))))))))))
  -- made
  let told2 := told.set a o
  have hu2 : okU rows told2 := set_u hu (by rw [ho]; exact hoo)
  have ri2 : sRI told2 := ht.tb.ri hu2
  refine b_asg (e_gf fam m.lp (rows, told) (fun _ => rfl) (a_2 (vr 1) (vr 2)) ⟨ht.tb.wd, ht.tb.ri hu⟩) (g_pr 9 10 (fun _ => rfl) (fun _ => rfl) (fun _ => nd)) ?_
  refine b_par (P1 := Wo cW bent) (P2 := Ru cU told2) (fun l => ps_par (i := 11) (j := 12) rfl nd rfl rfl (by decide) rfl rfl (uA_pa l) (by rfl)) (a_2 (e_meth fam m.ww (dWW.mk rows a o x) (vr 9) (a_cons (vr 3) (a_2 (vr 4) (vr 5))) rfl ⟨ht.tb.rc, ha, by rw [ho]; exact hoo⟩ rfl) (e_meth fam m.uw (told, a, o) (vr 10) (a_2 (vr 3) (vr 4)) rfl ⟨ht.tb.ri hu, by show a < told.length; omega, by show o < 6; omega⟩ rfl)) ?_
  have hat : a < told.length := by omega
  have lc1 : ∀ i j : Option Int, (cutL (told.map ni) i j).length ≤ 4 := fun i j => by
    unfold cutL
    rw [List.length_take, List.length_drop, List.length_map]
    omega
  refine b_st 13 (fun _ => nd) (e_gf fam m.lr told2 (fun _ => rfl) (a_1 (TyE.eq (e_op (r := rCat) (fun _ => op_cat) (e_op (r := rCat) (fun _ => op_cat) (e_slL (fun _ => rfl) (vr 2) o_non (o_som (vr 3))) (e_lst (a_1 (vr 4)) len1) (o_cat (by have := lc1 none (some (a : Int)); rw [sizeLine_eq]; show _ + 1 ≤ _; omega))) (e_slL (fun _ => rfl) (vr 2) (o_som (e_add (vr 3) e_int)) o_non) (o_cat (by have h1 := lc1 none (some (a : Int)); have h2 := lc1 (some ((a : Int) + 1)) none; rw [sizeLine_eq, List.length_append]; show _ + 1 + _ ≤ _; omega))) (ls_three hat))) ri2) ?_
  let G0 : List Sl := [.own (poolM (c + 19)), .is (Ls (rows.map rowP)), .is (Ls (told.map ni)), .is (ni a), .is (ni o), .is (IsI x), .is (Ls (bent.map rowP)), .is (Ls (more.map rowP)), .is (Ls (sums.map rowP)), .is (Wo cW rows), .is (Ru cU told), .is (Wo cW bent), .is (Ru cU told2), .is (Ru cU told2), .any, .any, .any, .any, .any, .any, .any]
  refine TyB.weak (Ga := G0) ?_ (GaLe.refl _)
  have bT := bB.tb (by decide)
  have sT := sB.tb (by decide)
  have mT := mB.tb (by decide)
  have mem2 : ∀ {k : Nat} {t : List (List Int)}, [bent, sums][k]? = some t → Tb t ∧ okU t told2 ∧ t.length = rows.length := fun {k t} hk => by
    rcases List.mem_cons.mp (List.mem_of_getElem? hk) with rfl | h
    · exact ⟨bT, bn_u bB hu2, bB.len⟩
    · rw [List.mem_singleton.mp h]; exact ⟨sT, bn_u sB hu2, sB.len⟩
  refine b_forN (ks := [14, 15]) (ds := [bent, sums]) (it := fun t => Tp [Wo cW t, Wo cW t]) (Inv := fun _ => G0) (Bd := fun _ t => (G0.set 14 (.is (Wo cW t))).set 15 (.is (Wo cW t))) (fun _ => rfl) (fun _ => rfl) (i_list (fun _ => rfl) (e_lst (a_2
      (e_tup (a_2 (vr 11) (e_gf fam m.lw bent (fun _ => rfl) (a_1 (vr 6)) bT.wd)) len2)
      (e_tup (a_2 (e_bin2 (op := .Add) fam m.adW m.fiW (bent, more) rfl (sums_wa bB mB) (vr 11) (e_gf fam m.lw more (fun _ => rfl) (a_1 (vr 7)) mT.wd)) (e_gf fam m.lw sums (fun _ => rfl) (a_1 (vr 8)) sT.wd)) len2)) len2))
    (fun k t _ => g_pr 14 15 (fun _ => rfl) (fun _ => rfl) (fun _ => nd)) (fun k t hk => ?_) ?_
  · obtain ⟨tb, tu, tl⟩ := mem2 hk
    have vd := tb.vd tu
    let G1 : List Sl := [.own (poolM (c + 19)), .is (Ls (rows.map rowP)), .is (Ls (told.map ni)), .is (ni a), .is (ni o), .is (IsI x), .is (Ls (bent.map rowP)), .is (Ls (more.map rowP)), .is (Ls (sums.map rowP)), .is (Wo cW rows), .is (Ru cU told), .is (Wo cW bent), .is (Ru cU told2), .is (Ru cU told2), .is (Wo cW t), .is (Wo cW t), .any, .any, .any, .any, .any]
    refine TyB.weak (Ga := G1) ?_ (GaLe.refl _)
    refine b_guard (t_neD (P1 := Ls ([t.length, (t.headD []).length].map ni)) (P2 := Ls ([t.length, (t.headD []).length].map ni)) (b := true) fam (e_lst (a_2 (e_kinds m.wf (fun _ => rfl) (vr 14)) (e_wouts m.wf (fun _ => rfl) (vr 14))) len2) (e_lst (a_2 (e_kinds m.wf (fun _ => rfl) (vr 15)) (e_wouts m.wf (fun _ => rfl) (vr 15))) len2) (dq_nis _) (dq_nis _) (depth_nis _) (depth_nis _) ((eqv_nis _ _).mpr rfl)) rfl ?_
    refine b_guard (b := false) (TyT.eq (t_w (w_or (t_neS (e_strO fam m.stW t rfl tb.wd rfl (fun _ => m.b.str) (vr 14)) (e_strO fam m.stW t rfl tb.wd rfl (fun _ => m.b.str) (vr 15))) (fun _ => w_or1 (t_ne2 fam m.neW (t, t) rfl trivial rfl (vr 14) (vr 15))) (fun _ => GaLe.refl _))) (by rw [decide_eq_true rfl, decide_eq_true rfl]; rfl)) rfl ?_
    refine b_guard (b := false) (TyT.eq (t_w (w_or (t_neB (e_gf fam m.cb (t, told2) (fun _ => rfl) (a_2 (vr 14) (vr 12)) vd) (e_gf fam m.cb (t, told2) (fun _ => rfl) (a_2 (vr 15) (vr 13)) vd)) (fun _ => w_or1 (t_ne2 fam m.neU (told2, told2) rfl trivial rfl (vr 12) (vr 13))) (fun _ => GaLe.refl _))) (by rw [decide_eq_true rfl, decide_eq_true rfl]; rfl)) rfl ?_
    refine b_forN (ks := [16]) (ds := ringsV rows.length) (it := tupP) (Inv := fun _ => G1) (Bd := fun _ r => G1.set 16 (.is (tupP r))) (fun _ => rfl) (fun _ => rfl) (i_list (fun _ => rfl) (e_gf fam m.rg rows.length (fun _ => rfl) (a_1 (eLen rfl)) n4)) (fun _ r _ => g_nm 16 (fun _ => nd)) (fun i r hr => ?_) ?_
    · obtain ⟨r1, r2, r3, r4⟩ := rings_ok n4 (List.mem_of_getElem? hr)
      have rk : ∀ k ∈ r, k < t.length := by rw [tl]; exact r3
      refine b_guard (t_ne (e_gf fam m.rs ((t, told2), r) (fun _ => rfl) (a_cons (vr 14) (a_2 (vr 12) (vr 16))) ⟨vd, r1, r2, rk, r4⟩) (e_gf fam m.rs ((t, told2), r) (fun _ => rfl) (a_cons (vr 15) (a_2 (vr 13) (vr 16))) ⟨vd, r1, r2, rk, r4⟩)) (by rw [decide_eq_true rfl]; rfl) ?_
      exact b_nil (.cons .rfl (.cons .rfl (.cons .rfl (.cons .rfl (.cons .rfl (.cons .rfl (.cons .rfl (.cons .rfl (.cons .rfl (.cons .rfl (.cons .rfl (.cons .rfl (.cons .rfl (.cons .rfl (.cons .rfl (.cons .rfl (.cons .any (GaLe.refl _))))))))))))))))))
    · refine b_guard (b := false) (TyT.eq (t_w (w_and (b2 := false) (t_gt (eLen rfl) e_int) (fun hb => ?_) (fun _ => GaLe.refl _))) (Bool.and_false _)) rfl ?_
      · have h2 : 2 ≤ rows.length := by have := of_decide_eq_true hb; omega
        exact w_and1 (TyT.eq (t_ne2 fam m.r.ne (lgV (lossV t told2) t.length, lgV (lossV t told2) t.length) rfl trivial rfl (e_gf fam m.lg (t, told2) (fun _ => rfl) (a_2 (vr 14) (vr 12)) ⟨vd, by show 2 ≤ t.length; omega⟩) (e_gf fam m.lg (t, told2) (fun _ => rfl) (a_2 (vr 15) (vr 13)) ⟨vd, by show 2 ≤ t.length; omega⟩)) (by rw [decide_eq_true rfl]; rfl))
      · exact b_nil (.cons .rfl (.cons .rfl (.cons .rfl (.cons .rfl (.cons .rfl (.cons .rfl (.cons .rfl (.cons .rfl (.cons .rfl (.cons .rfl (.cons .rfl (.cons .rfl (.cons .rfl (.cons .rfl (.cons .any (.cons .any (.cons .any (GaLe.refl _))))))))))))))))))
  · refine b_ret (TyE.eq (e_and (b1 := true) (b2 := true) (TyE.eq (e_eq2 fam m.eqW (rows, rows) rfl trivial (vr 9) (e_gf fam m.lw rows (fun _ => rfl) (a_1 (vr 1)) ht.tb.wd)) (by show IsB (decide (rows = rows)) = _; rw [decide_eq_true rfl])) (fun _ => e_one (v_eqD fam (e_listO fam m.itU m.lnU 0 (fun i => by rw [fam.mg i]; exact m.b.list) (vr 10) rfl ⟨rfl, rfl⟩) (vr 2) (dq_nis told) (dq_nis told) (depth_nis _) (depth_nis _) ((eqv_nis _ _).mpr rfl))) (fun _ => GaLe.refl _)) rfl) (OwnAt.imp 0 rfl (poolM_mono (by omega)))
end
end Tf
end
section
/-! The law. -/
namespace Tf
open PySem PySem.Spec PyProof.Rows L2 Ty TL
structure LawT (P : Program) (w : World) (K : PySem.W.Frag) (mg : Str → Option Value) (base : Heap) : Prop where
  b : Fb mg
  bg : Gf P w K mg base 1 "_law_bag" spBag
  dr : Gf P w K mg base 1 "_law_draw" spDr
  at_ : Gf P w K mg base 1 "_law_at" (spAt K)
  nu : Gf P w K mg base 2 "_law_numbers" spNu
  to : Gf P w K mg base 2 "_law_told_row" spTo
  pr : Gf P w K mg base 72 "_law_priced_right" spLaw5
  tw : Gf P w K mg base 72 "_law_twin_right" spLaw5
  un : Gf P w K mg base 72 "_law_unused_right" spLaw5
  fr : Gf P w K mg base 72 "_law_fewer_right" spLaw5
  ha : Gf P w K mg base 72 "_law_handed_right" spLaw5
section
variable {P : Program} {w : World} {K : PySem.W.Frag} {mg : Str → Option Value} {base : Heap} {f : Addr} {fd : FuncData}
abbrev NLaw : List Str := ["_law_script", "_law_pool", "_law_cell", "_law_rows", "_law_told"]
theorem scLaw : FnScope NLaw ["_law_script"] (defScope (top 73)) := ⟨rfl, rfl, rfl, by decide +kernel, rfl, by decide +kernel, by decide +kernel⟩
abbrev spLaw (K : PySem.W.Frag) : Sp := SpD (fun d : List Int => [LsK K (d.map IsI)]) (fun d => d.length ≤ 64) (fun _ => IsB true)
theorem body_law (m : LawT P w K mg base) (d : List Int) (h : d.length ≤ 64) : BodyOk P w K mg base NLaw "law" (defScope (top 73)) (defBody (top 73)) 73 (padG NLaw ([LsK K (d.map IsI)].map .is)) (IsB true) none := by
  intro f cdv Ar outer s H E fam
  have nd := scLaw.nd
  refine ⟨none, ?_, fun _ h => nomatch h⟩
  let ds : List Int := d.getD 0 0 :: cutL d (some 1) (some 3)
  have hds : (cutL d (some 1) (some 3)).length ≤ 64 := by
    unfold cutL
    rw [List.length_take, List.length_drop]
    omega
  refine b_forN (ks := [2]) (ds := ds) (it := IsI) (Inv := fun _ => [.is (LsK K (d.map IsI)), .any, .any, .any, .any]) (Bd := fun _ x => [.is (LsK K (d.map IsI)), .any, .is (IsI x), .any, .any]) (fun _ => rfl) (fun _ => rfl) (i_list (fun _ => rfl) (TyE.eq (e_op (r := rCat) (fun _ => op_cat) (e_lst (a_1 (e_gf fam m.at_ (d, 0) (fun _ => rfl) (a_2 (vr 0) e_int) trivial)) len1) (e_listSq (Ps := (cutL d (some 1) (some 3)).map IsI) (fun _ => m.b.list) (fun _ => rfl) (e_slK (fun _ => rfl) (vr 0) (o_som e_int) (o_som e_int)) (fun v G h => Ls.sq (by rw [← cutL_map]; exact h))) (o_cat (by rw [List.length_map, sizeLine_eq]; show 1 + _ ≤ _; omega))) rfl)) (fun k x _ => g_nm 2 (fun _ => nd)) (fun k x hx => ?_) ?_
  · refine b_stM 1 (fun _ => nd) (fun i => uE_pe i) (n_gf fam m.bg x (fun _ => rfl) (a_1 (vr 2)) trivial) ?_
    refine b_ownM (i := 1) (M := poolM 0) rfl (fun j s hj hm => ?_) (fun j s hj => ?_) ?_
    · match j, hj with
      | 0, hj => cases hj; exact hm.elim
      | 1, hj => rfl
      | 2, hj => cases hj; exact hm.elim
      | 3, hj => cases hj; exact hm.elim
      | 4, hj => cases hj; exact hm.elim
      | j + 5, hj => exact nomatch hj
    · match j, hj with
      | 0, hj => cases hj; exact fun h => h
      | 1, hj => cases hj; exact fun h => h
      | 2, hj => cases hj; exact fun h => h
      | 3, hj => cases hj; exact fun h => h
      | 4, hj => cases hj; exact fun h => h
      | j + 5, hj => exact nomatch hj
    have eDr : ∀ {Gx : List Sl} {c : Nat} {p1 p2 p3 p4 p5 p6 : Pos} {kk k2 : Nat}, Gx[1]? = some (.own (poolM c)) → c ≤ 1000 → TyE (bodyX P w K mg base NLaw "law" (defScope (top 73)) f cdv Ar outer s H E) Gx (.BinOp (.Constant (.int 1) kk p1) .Add (.Call (.Name "_law_draw" p2) [.Name "_law_pool" p3, .Constant (.int 4) k2 p4] [] p5) p6) p14 (Gx.set 1 (.own (poolM (c + 1)))) := fun {Gx c} {p1 p2 p3 p4 p5 p6} {kk k2} hx hc => by
      refine e_op (r := rI0 fun i j => .int (i + j)) (fun _ => op_add) e_int (e_gfO fam m.dr (c, 4) (fun _ => rfl) (fun _ => pv 1) ⟨_, hx⟩ (a_1 e_int) hx (sdr hc (by decide))) (o_ex2 fun y hy => OpT.to o_rI0 fun v G p => ⟨1 + y, ⟨by omega, by have hy : y < 4 := hy; omega⟩, by show (IsI _).p v G; rw [show ((1 + y : Nat) : Int) = 1 + (y : Int) by omega]; exact p⟩)
    refine b_st 3 (fun _ => nd) (e_gfO fam m.nu 2 (fun _ => rfl) (fun _ => pv 1) ⟨_, rfl⟩ (a_2 (eDr (c := 0) rfl (by decide)) (eDr (c := 1) rfl (by decide))) rfl (show (2 : Nat) ≤ 900 by decide)) ?_
    refine b_open (k := 3) rfl fun rows ht => ?_
    refine b_st 4 (fun _ => nd) (e_gfO fam m.to (42, rows) (fun _ => rfl) (fun _ => pv 1) ⟨_, rfl⟩ (a_1 (vr 3)) rfl ⟨show 42 ≤ 900 by decide, ht⟩) ?_
    refine b_open (k := 4) rfl fun told hu => ?_
    have hs : ∀ c, c ≤ 900 → sLaw (c, rows, told) := fun c hc => ⟨hc, ht, hu⟩
    let G0 : Nat → List Sl := fun c => [.is (LsK K (d.map IsI)), .own (poolM c), .is (IsI x), .is (Ls (rows.map rowP)), .is (Ls (told.map ni))]
    refine TyB.weak (Ga := G0 62) ?_ (GaLe.refl _)
    have e5 : ∀ {x : Str} (c : Nat) {p1 p2 p3 p4 p5 : Pos}, c ≤ 900 → Gf P w K mg base 72 x spLaw5 → (∀ i, Gl (bodyX P w K mg base NLaw "law" (defScope (top 73)) f cdv Ar outer s H E i) x) → (x == ("__debug__" : Str)) = false → TyE (bodyX P w K mg base NLaw "law" (defScope (top 73)) f cdv Ar outer s H E) (G0 c) (.Call (.Name x p1) [.Name "_law_pool" p2, .Name "_law_rows" p3, .Name "_law_told" p4] [] p5) (IsB true) (G0 (c + 40)) := fun {x} c {p1 p2 p3 p4 p5} hc F hg hx =>
      e_gfO (Gb := G0 c) fam F (c, rows, told) hg (fun _ => pv 1) ⟨_, rfl⟩ (a_2 (vr 3) (vr 4)) rfl (hs c hc) (by decide) hx
    refine b_guard (b := false) (t_w (w_or (b1 := false) (b2 := false) (t_not (b := true) (t_val (e5 62 (by decide) m.pr (fun _ => rfl) (by decide)))) (fun _ => w_or1 (t_not (b := true) (t_val (e5 102 (by decide) m.tw (fun _ => rfl) (by decide))))) (fun h => nomatch h))) rfl ?_
    refine b_guard (b := false) (t_w (w_or (b1 := false) (b2 := false) (t_not (b := true) (t_val (e5 142 (by decide) m.un (fun _ => rfl) (by decide)))) (fun _ => w_or1 (t_not (b := true) (t_val (e5 182 (by decide) m.fr (fun _ => rfl) (by decide))))) (fun h => nomatch h))) rfl ?_
    refine b_guard (t_not (b := true) (t_val (e5 222 (by decide) m.ha (fun _ => rfl) (by decide)))) rfl ?_
    exact b_nil (.cons .rfl (.cons .any (.cons .any (.cons .any (.cons .any .nil)))))
  · exact b_ret e_bl OwnAt.none
end
end Tf
end
section
/-! All promises out of what the head tells. -/
namespace Tf
open PySem PySem.Spec PyProof.Rows L2 Ty TL
theorem gf0_lf {P : Program} {w : World} {K : Fg} {mg : Str → Option Value} {base : Heap} {f : Addr} {fd : FuncData} {k : Nat} {sp : Sp} (F : FnK K "least_fees" "least_fees" (top 39) f fd) (Fo : FnOk P w K mg base CX0 k f fd ["worths", "rule", "kind", "amount"] sp) (hm : mg "least_fees" = some (.ref f)) : Gf P w K mg base k "least_fees" (fun vs H Q E => sp (vs ++ [.int 0, .non]) H Q E) := by
  obtain ⟨ds, rd, hb⟩ := F.binds0 (ps := ["worths", "rule", "kind", "amount"]) 2 (by simp) rfl fun D doc pm an cdv ct us ks h1 h2 => by
    match us, ks, h1, h2 with
    | [_, _], [_, _], _, _ => exact ⟨_, _, _, _, _, _, rfl, rfl, _, _, _, _, _, _, rfl, rfl, rfl⟩
  exact ⟨f, Fo.raw hb rd, hm, F.kp⟩
theorem law_all {K : Fg} {mg : Str → Option Value} {hp : Heap} (z : Told faZ fnZ exZ K) (X : K.In hp) (N : hp.Ns mainGlobals mg) : ∃ fd : FuncData, FnP K "law" "law" (top 73) (He.ga K "law") fd ∧ mg "law" = some (.ref (He.ga K "law")) ∧ ∀ (P : Program) (w : World) (base : Heap), FnOk P w K mg base CX0 74 (He.ga K "law") fd ["_law_script"] (spLaw K) := by
  obtain ⟨_, F_common⟩ : ∃ fd, FnP K "common" "common" (top 11) (He.ga K "common") fd := z.d 0 (d := gD "common" 11)
  obtain ⟨_, F_is_count⟩ : ∃ fd, FnP K "is_count" "is_count" (top 12) (He.ga K "is_count") fd := z.d 1 (d := gD "is_count" 12)
  obtain ⟨_, F_is_top⟩ : ∃ fd, FnP K "is_top" "is_top" (top 13) (He.ga K "is_top") fd := z.d 2 (d := gD "is_top" 13)
  obtain ⟨_, F_greatest⟩ : ∃ fd, FnP K "greatest" "greatest" (top 15) (He.ga K "greatest") fd := z.d 3 (d := gD "greatest" 15)
  obtain ⟨_, F_least⟩ : ∃ fd, FnP K "least" "least" (top 16) (He.ga K "least") fd := z.d 4 (d := gD "least" 16)
  obtain ⟨_, F_check_rule⟩ : ∃ fd, FnP K "check_rule" "check_rule" (top 21) (He.ga K "check_rule") fd := z.d 5 (d := gD "check_rule" 21)
  obtain ⟨_, F_check_fees⟩ : ∃ fd, FnP K "check_fees" "check_fees" (top 22) (He.ga K "check_fees") fd := z.d 6 (d := gD "check_fees" 22)
  obtain ⟨_, F_check_kinds⟩ : ∃ fd, FnP K "check_kinds" "check_kinds" (top 23) (He.ga K "check_kinds") fd := z.d 7 (d := gD "check_kinds" 23)
  obtain ⟨_, F_loss⟩ : ∃ fd, FnP K "loss" "loss" (top 24) (He.ga K "loss") fd := z.d 8 (d := gD "loss" 24)
  obtain ⟨_, F_gain⟩ : ∃ fd, FnP K "gain" "gain" (top 25) (He.ga K "gain") fd := z.d 9 (d := gD "gain" 25)
  obtain ⟨_, F_lies⟩ : ∃ fd, FnP K "lies" "lies" (top 26) (He.ga K "lies") fd := z.d 10 (d := gD "lies" 26)
  obtain ⟨_, F_best_lie⟩ : ∃ fd, FnP K "best_lie" "best_lie" (top 27) (He.ga K "best_lie") fd := z.d 11 (d := gD "best_lie" 27)
  obtain ⟨_, F_most_gain⟩ : ∃ fd, FnP K "most_gain" "most_gain" (top 28) (He.ga K "most_gain") fd := z.d 12 (d := gD "most_gain" 28)
  obtain ⟨_, F_is_true⟩ : ∃ fd, FnP K "is_true" "is_true" (top 29) (He.ga K "is_true") fd := z.d 13 (d := gD "is_true" 29)
  obtain ⟨_, F_ring_sum⟩ : ∃ fd, FnP K "ring_sum" "ring_sum" (top 30) (He.ga K "ring_sum") fd := z.d 14 (d := gD "ring_sum" 30)
  obtain ⟨_, F_turned⟩ : ∃ fd, FnP K "turned" "turned" (top 33) (He.ga K "turned") fd := z.d 15 (d := gD "turned" 33)
  obtain ⟨_, F_ways_of⟩ : ∃ fd, FnP K "ways_of" "ways_of" (top 34) (He.ga K "ways_of") fd := z.d 16 (d := gD "ways_of" 34)
  obtain ⟨_, F_can_be_true⟩ : ∃ fd, FnP K "can_be_true" "can_be_true" (top 35) (He.ga K "can_be_true") fd := z.d 17 (d := gD "can_be_true" 35)
  obtain ⟨_, F_ring_or_none⟩ : ∃ fd, FnP K "ring_or_none" "ring_or_none" (top 36) (He.ga K "ring_or_none") fd := z.d 18 (d := gD "ring_or_none" 36)
  obtain ⟨_, F_begin_of⟩ : ∃ fd, FnP K "begin_of" "begin_of" (top 37) (He.ga K "begin_of") fd := z.d 19 (d := gD "begin_of" 37)
  obtain ⟨_, F_greatest_fees⟩ : ∃ fd, FnK K "greatest_fees" "greatest_fees" (top 38) (He.ga K "greatest_fees") fd := z.d 20 (d := { gD "greatest_fees" 38 with kwd := [("kind", .int 0), ("amount", .non)] })
  obtain ⟨_, F_least_fees⟩ : ∃ fd, FnK K "least_fees" "least_fees" (top 39) (He.ga K "least_fees") fd := z.d 21 (d := { gD "least_fees" 39 with kwd := [("kind", .int 0), ("amount", .non)] })
  obtain ⟨_, F_spread⟩ : ∃ fd, FnP K "spread" "spread" (top 40) (He.ga K "spread") fd := z.d 22 (d := gD "spread" 40)
  obtain ⟨_, F_is_only⟩ : ∃ fd, FnP K "is_only" "is_only" (top 41) (He.ga K "is_only") fd := z.d 23 (d := gD "is_only" 41)
  obtain ⟨_, F_check_two⟩ : ∃ fd, FnP K "check_two" "check_two" (top 43) (He.ga K "check_two") fd := z.d 24 (d := gD "check_two" 43)
  obtain ⟨_, F_rounds⟩ : ∃ fd, FnP K "rounds" "rounds" (top 44) (He.ga K "rounds") fd := z.d 25 (d := gD "rounds" 44)
  obtain ⟨_, F_least_mean⟩ : ∃ fd, FnP K "least_mean" "least_mean" (top 45) (He.ga K "least_mean") fd := z.d 26 (d := gD "least_mean" 45)
  obtain ⟨_, F_least_gain⟩ : ∃ fd, FnP K "least_gain" "least_gain" (top 46) (He.ga K "least_gain") fd := z.d 27 (d := gD "least_gain" 46)
  obtain ⟨_, F_least_sums⟩ : ∃ fd, FnP K "least_sums" "least_sums" (top 47) (He.ga K "least_sums") fd := z.d 28 (d := gD "least_sums" 47)
  obtain ⟨_, F_fees_within⟩ : ∃ fd, FnP K "fees_within" "fees_within" (top 48) (He.ga K "fees_within") fd := z.d 29 (d := gD "fees_within" 48)
  obtain ⟨_, F_nearest_fees⟩ : ∃ fd, FnP K "nearest_fees" "nearest_fees" (top 49) (He.ga K "nearest_fees") fd := z.d 30 (d := gD "nearest_fees" 49)
  obtain ⟨_, F__law_bag⟩ : ∃ fd, FnP K "_law_bag" "_law_bag" (top 56) (He.ga K "_law_bag") fd := z.d 31 (d := gD "_law_bag" 56)
  obtain ⟨_, F__law_draw⟩ : ∃ fd, FnP K "_law_draw" "_law_draw" (top 57) (He.ga K "_law_draw") fd := z.d 32 (d := gD "_law_draw" 57)
  obtain ⟨_, F__law_at⟩ : ∃ fd, FnP K "_law_at" "_law_at" (top 58) (He.ga K "_law_at") fd := z.d 33 (d := gD "_law_at" 58)
  obtain ⟨_, F__law_numbers⟩ : ∃ fd, FnP K "_law_numbers" "_law_numbers" (top 59) (He.ga K "_law_numbers") fd := z.d 34 (d := gD "_law_numbers" 59)
  obtain ⟨_, F__law_told_row⟩ : ∃ fd, FnP K "_law_told_row" "_law_told_row" (top 60) (He.ga K "_law_told_row") fd := z.d 35 (d := gD "_law_told_row" 60)
  obtain ⟨_, F__law_worths⟩ : ∃ fd, FnP K "_law_worths" "_law_worths" (top 62) (He.ga K "_law_worths") fd := z.d 36 (d := gD "_law_worths" 62)
  obtain ⟨_, F__law_rule⟩ : ∃ fd, FnP K "_law_rule" "_law_rule" (top 63) (He.ga K "_law_rule") fd := z.d 37 (d := gD "_law_rule" 63)
  obtain ⟨_, F__law_fees⟩ : ∃ fd, FnP K "_law_fees" "_law_fees" (top 64) (He.ga K "_law_fees") fd := z.d 38 (d := gD "_law_fees" 64)
  obtain ⟨_, F__law_rings⟩ : ∃ fd, FnP K "_law_rings" "_law_rings" (top 65) (He.ga K "_law_rings") fd := z.d 39 (d := gD "_law_rings" 65)
  obtain ⟨_, F__law_pair⟩ : ∃ fd, FnP K "_law_pair" "_law_pair" (top 67) (He.ga K "_law_pair") fd := z.d 40 (d := gD "_law_pair" 67)
  obtain ⟨_, F__law_priced_right⟩ : ∃ fd, FnP K "_law_priced_right" "_law_priced_right" (top 68) (He.ga K "_law_priced_right") fd := z.d 41 (d := gD "_law_priced_right" 68)
  obtain ⟨_, F__law_twin_right⟩ : ∃ fd, FnP K "_law_twin_right" "_law_twin_right" (top 69) (He.ga K "_law_twin_right") fd := z.d 42 (d := gD "_law_twin_right" 69)
  obtain ⟨_, F__law_unused_right⟩ : ∃ fd, FnP K "_law_unused_right" "_law_unused_right" (top 70) (He.ga K "_law_unused_right") fd := z.d 43 (d := gD "_law_unused_right" 70)
  obtain ⟨_, F__law_fewer_right⟩ : ∃ fd, FnP K "_law_fewer_right" "_law_fewer_right" (top 71) (He.ga K "_law_fewer_right") fd := z.d 44 (d := gD "_law_fewer_right" 71)
  obtain ⟨_, F__law_handed_right⟩ : ∃ fd, FnP K "_law_handed_right" "_law_handed_right" (top 72) (He.ga K "_law_handed_right") fd := z.d 45 (d := gD "_law_handed_right" 72)
  obtain ⟨fdl, F_law⟩ : ∃ fd, FnP K "law" "law" (top 73) (He.ga K "law") fd := z.d 46 (d := gD "law" 73)
  obtain ⟨_, F_Ratio_init⟩ : ∃ fd, FnP K "__init__" "Ratio.__init__" (inClass (top 14) 0) (He.ma K (He.ga K "Ratio") "__init__") fd := z.d 47 (d := mD "Ratio" "__init__" "Ratio.__init__" 14 0)
  obtain ⟨_, F_Ratio_whole⟩ : ∃ fd, FnP K "whole" "Ratio.whole" (inClass (top 14) 1) (He5.wf K (He.ga K "Ratio") "classmethod" "whole") fd := z.d 48 (d := cD "Ratio" "whole" "Ratio.whole" 14 1)
  obtain ⟨_, F_Ratio_read⟩ : ∃ fd, FnP K "read" "Ratio.read" (inClass (top 14) 2) (He5.wf K (He.ga K "Ratio") "classmethod" "read") fd := z.d 49 (d := cD "Ratio" "read" "Ratio.read" 14 2)
  obtain ⟨_, F_Ratio_add⟩ : ∃ fd, FnP K "__add__" "Ratio.__add__" (inClass (top 14) 3) (He.ma K (He.ga K "Ratio") "__add__") fd := z.d 50 (d := mD "Ratio" "__add__" "Ratio.__add__" 14 3)
  obtain ⟨_, F_Ratio_sub⟩ : ∃ fd, FnP K "__sub__" "Ratio.__sub__" (inClass (top 14) 4) (He.ma K (He.ga K "Ratio") "__sub__") fd := z.d 51 (d := mD "Ratio" "__sub__" "Ratio.__sub__" 14 4)
  obtain ⟨_, F_Ratio_neg⟩ : ∃ fd, FnP K "__neg__" "Ratio.__neg__" (inClass (top 14) 5) (He.ma K (He.ga K "Ratio") "__neg__") fd := z.d 52 (d := mD "Ratio" "__neg__" "Ratio.__neg__" 14 5)
  obtain ⟨_, F_Ratio_eq⟩ : ∃ fd, FnP K "__eq__" "Ratio.__eq__" (inClass (top 14) 7) (He.ma K (He.ga K "Ratio") "__eq__") fd := z.d 53 (d := mD "Ratio" "__eq__" "Ratio.__eq__" 14 7)
  obtain ⟨_, F_Ratio_str⟩ : ∃ fd, FnP K "__str__" "Ratio.__str__" (inClass (top 14) 9) (He.ma K (He.ga K "Ratio") "__str__") fd := z.d 54 (d := mD "Ratio" "__str__" "Ratio.__str__" 14 9)
  obtain ⟨_, F_Ratio_under⟩ : ∃ fd, FnP K "under" "Ratio.under" (inClass (top 14) 11) (He.ma K (He.ga K "Ratio") "under") fd := z.d 55 (d := mD "Ratio" "under" "Ratio.under" 14 11)
  obtain ⟨_, F_Fees_init⟩ : ∃ fd, FnP K "__init__" "Fees.__init__" (inClass (top 19) 0) (He.ma K (He.ga K "Fees") "__init__") fd := z.d 56 (d := mD "Fees" "__init__" "Fees.__init__" 19 0)
  obtain ⟨_, F_Fees_read⟩ : ∃ fd, FnP K "read" "Fees.read" (inClass (top 19) 1) (He5.wf K (He.ga K "Fees") "classmethod" "read") fd := z.d 57 (d := cD "Fees" "read" "Fees.read" 19 1)
  obtain ⟨_, F_Fees_call⟩ : ∃ fd, FnP K "__call__" "Fees.__call__" (inClass (top 19) 2) (He.ma K (He.ga K "Fees") "__call__") fd := z.d 58 (d := mD "Fees" "__call__" "Fees.__call__" 19 2)
  obtain ⟨_, F_Fees_len⟩ : ∃ fd, FnP K "__len__" "Fees.__len__" (inClass (top 19) 3) (He.ma K (He.ga K "Fees") "__len__") fd := z.d 59 (d := mD "Fees" "__len__" "Fees.__len__" 19 3)
  obtain ⟨_, F_Fees_iter⟩ : ∃ fd, FnP K "__iter__" "Fees.__iter__" (inClass (top 19) 4) (He.ma K (He.ga K "Fees") "__iter__") fd := z.d 60 (d := mD "Fees" "__iter__" "Fees.__iter__" 19 4)
  obtain ⟨_, F_Ways_init⟩ : ∃ fd, FnP K "__init__" "Ways.__init__" (inClass (top 32) 0) (He.ma K (He.ga K "Ways") "__init__") fd := z.d 61 (d := mD "Ways" "__init__" "Ways.__init__" 32 0)
  obtain ⟨_, F_Ways_bend⟩ : ∃ fd, FnP K "bend" "Ways.bend" (inClass (top 32) 1) (He.ma K (He.ga K "Ways") "bend") fd := z.d 62 (d := mD "Ways" "bend" "Ways.bend" 32 1)
  obtain ⟨_, F_Ways_round_sum⟩ : ∃ fd, FnP K "round_sum" "Ways.round_sum" (inClass (top 32) 2) (He.ma K (He.ga K "Ways") "round_sum") fd := z.d 63 (d := mD "Ways" "round_sum" "Ways.round_sum" 32 2)
  obtain ⟨_, F_Ways_simple⟩ : ∃ fd, FnP K "simple" "Ways.simple" (inClass (top 32) 3) (He.ma K (He.ga K "Ways") "simple") fd := z.d 64 (d := mD "Ways" "simple" "Ways.simple" 32 3)
  obtain ⟨_, F_Worths_init⟩ : ∃ fd, FnP K "__init__" "Worths.__init__" (inClass (top 53) 0) (He.ma K (He.ga K "Worths") "__init__") fd := z.d 65 (d := mD "Worths" "__init__" "Worths.__init__" 53 0)
  obtain ⟨_, F_Worths_read⟩ : ∃ fd, FnP K "read" "Worths.read" (inClass (top 53) 1) (He5.wf K (He.ga K "Worths") "classmethod" "read") fd := z.d 66 (d := cD "Worths" "read" "Worths.read" 53 1)
  obtain ⟨_, F_Worths_call⟩ : ∃ fd, FnP K "__call__" "Worths.__call__" (inClass (top 53) 2) (He.ma K (He.ga K "Worths") "__call__") fd := z.d 67 (d := mD "Worths" "__call__" "Worths.__call__" 53 2)
  obtain ⟨_, F_Worths_row⟩ : ∃ fd, FnP K "row" "Worths.row" (inClass (top 53) 3) (He.ma K (He.ga K "Worths") "row") fd := z.d 68 (d := mD "Worths" "row" "Worths.row" 53 3)
  obtain ⟨_, F_Worths_eq⟩ : ∃ fd, FnP K "__eq__" "Worths.__eq__" (inClass (top 53) 4) (He.ma K (He.ga K "Worths") "__eq__") fd := z.d 69 (d := mD "Worths" "__eq__" "Worths.__eq__" 53 4)
  obtain ⟨_, F_Worths_add⟩ : ∃ fd, FnP K "__add__" "Worths.__add__" (inClass (top 53) 5) (He.ma K (He.ga K "Worths") "__add__") fd := z.d 70 (d := mD "Worths" "__add__" "Worths.__add__" 53 5)
  obtain ⟨_, F_Worths_str⟩ : ∃ fd, FnP K "__str__" "Worths.__str__" (inClass (top 53) 6) (He.ma K (He.ga K "Worths") "__str__") fd := z.d 71 (d := mD "Worths" "__str__" "Worths.__str__" 53 6)
  obtain ⟨_, F_Worths_with_worth⟩ : ∃ fd, FnP K "with_worth" "Worths.with_worth" (inClass (top 53) 7) (He.ma K (He.ga K "Worths") "with_worth") fd := z.d 72 (d := mD "Worths" "with_worth" "Worths.with_worth" 53 7)
  obtain ⟨_, F_Rule_init⟩ : ∃ fd, FnP K "__init__" "Rule.__init__" (inClass (top 54) 0) (He.ma K (He.ga K "Rule") "__init__") fd := z.d 73 (d := mD "Rule" "__init__" "Rule.__init__" 54 0)
  obtain ⟨_, F_Rule_read⟩ : ∃ fd, FnP K "read" "Rule.read" (inClass (top 54) 1) (He5.wf K (He.ga K "Rule") "classmethod" "read") fd := z.d 74 (d := cD "Rule" "read" "Rule.read" 54 1)
  obtain ⟨_, F_Rule_call⟩ : ∃ fd, FnP K "__call__" "Rule.__call__" (inClass (top 54) 2) (He.ma K (He.ga K "Rule") "__call__") fd := z.d 75 (d := mD "Rule" "__call__" "Rule.__call__" 54 2)
  obtain ⟨_, F_Rule_len⟩ : ∃ fd, FnP K "__len__" "Rule.__len__" (inClass (top 54) 3) (He.ma K (He.ga K "Rule") "__len__") fd := z.d 76 (d := mD "Rule" "__len__" "Rule.__len__" 54 3)
  obtain ⟨_, F_Rule_iter⟩ : ∃ fd, FnP K "__iter__" "Rule.__iter__" (inClass (top 54) 4) (He.ma K (He.ga K "Rule") "__iter__") fd := z.d 77 (d := mD "Rule" "__iter__" "Rule.__iter__" 54 4)
  obtain ⟨_, F_Rule_eq⟩ : ∃ fd, FnP K "__eq__" "Rule.__eq__" (inClass (top 54) 5) (He.ma K (He.ga K "Rule") "__eq__") fd := z.d 78 (d := mD "Rule" "__eq__" "Rule.__eq__" 54 5)
  obtain ⟨_, F_Rule_with_outcome⟩ : ∃ fd, FnP K "with_outcome" "Rule.with_outcome" (inClass (top 54) 7) (He.ma K (He.ga K "Rule") "with_outcome") fd := z.d 79 (d := mD "Rule" "with_outcome" "Rule.with_outcome" 54 7)
  refine ⟨fdl, F_law, (He.glo_ok X N (z.f 66)), fun P w base => ?_⟩
  let cR := He.ga K "Ratio"
  let cF := He.ga K "Fees"
  let cY := He.ga K "Ways"
  let cW := He.ga K "Worths"
  let cU := He.ga K "Rule"
  have b : Fb mg := ⟨(He.free_ok X N (z.f 0)), (He.free_ok X N (z.f 1)), (He.free_ok X N (z.f 2)), (He.free_ok X N (z.f 3)), (He.free_ok X N (z.f 4)), (He.free_ok X N (z.f 5)), (He.free_ok X N (z.f 6)), (He.free_ok X N (z.f 7)), (He.free_ok X N (z.f 8)), (He.free_ok X N (z.f 9)), (He.free_ok X N (z.f 10)), (He.free_ok X N (z.f 11)), (He.free_ok X N (z.f 12)), (He.free_ok X N (z.f 13)), (He.free_ok X N (z.f 14)), (He.free_ok X N (z.f 15))⟩
  have c : Fc mg := ⟨(by obtain ⟨t, h⟩ := He.int_ok X N (z.f 16); exact ⟨_, h, t, rfl⟩), (by obtain ⟨t, h⟩ := He.int_ok X N (z.f 17); exact ⟨_, h, t, rfl⟩), (by obtain ⟨t, h⟩ := He.int_ok X N (z.f 18); exact ⟨_, h, t, rfl⟩), (by obtain ⟨t, h⟩ := He.str_ok X N (z.f 19); exact ⟨_, h, t, rfl⟩)⟩
  have clcR : Cls K cR := He.cls_ok (z.f 68)
  have clcF : Cls K cF := He.cls_ok (z.f 77)
  have clcY : Cls K cY := He.cls_ok (z.f 83)
  have clcW : Cls K cW := He.cls_ok (z.f 89)
  have clcU : Cls K cU := He.cls_ok (z.f 98)
  have rF : RaF mg K cR := ⟨(He.glo_ok X N (z.f 67)), insB_ok (z.e 0) clcR, He.noat_ok (z.f 105), He.noat_ok (z.f 106)⟩
  have fF : FeF mg K cF := ⟨(He.glo_ok X N (z.f 76)), insB_ok (z.e 1) clcF, He.noat_ok (z.f 107)⟩
  have wF : WoF mg K cW := ⟨(He.glo_ok X N (z.f 88)), insB_ok (z.e 2) clcW, He.noat_ok (z.f 113), He.noat_ok (z.f 114), He.noat_ok (z.f 115)⟩
  have uF : RuF mg K cU := ⟨(He.glo_ok X N (z.f 97)), insB_ok (z.e 3) clcU, He.noat_ok (z.f 116)⟩
  have yF : YaF mg K cY := ⟨(He.glo_ok X N (z.f 82)), clcY, He.noat_ok (z.f 108), He.noat_ok (z.f 109), He.noat_ok (z.f 110), He.noat_ok (z.f 111), He.noat_ok (z.f 112)⟩
  have gCommon : Gf P w K mg base 1 "common" spCommon := gf_common b F_common (He.glo_ok X N (z.f 20))
  have made : Mkf P w K mg base 2 cR (spInit cR) := mk_ratio gCommon rF F_Ratio_init (He.mkr_ok (z.f 69))
  have whole : Cm P w K mg base 4 cR "whole" (spWhole cR) := ⟨_, _, _, (Ty.FnOk.r (fn_d F_Ratio_whole scWhole (fun _ => rfl) fun d _ => body_whole made d) (F_Ratio_whole.bindsN (fun _ _ _ _ _ _ us hl => match us, hl with | [_, _], _ => rfl))), rdB_ok (z.e 12), cmB_ok (z.e 16)⟩
  have add : Sf P w K mg base 4 cR "__add__" (spAdd cR) := ⟨_, (Ty.FnOk.r (fn_d F_Ratio_add scAdd (fun _ => rfl) fun d hd => body_add made rF d hd) (F_Ratio_add.bindsN (fun _ _ _ _ _ _ us hl => match us, hl with | [_, _], _ => rfl))), ((He.meth_ok (z.f 70))).at_, ((He.meth_ok (z.f 70))).fn⟩
  have sub : Sf P w K mg base 4 cR "__sub__" (spSub cR) := ⟨_, (Ty.FnOk.r (fn_d F_Ratio_sub scSub (fun _ => rfl) fun d hd => body_sub made rF d hd) (F_Ratio_sub.bindsN (fun _ _ _ _ _ _ us hl => match us, hl with | [_, _], _ => rfl))), ((He.meth_ok (z.f 71))).at_, ((He.meth_ok (z.f 71))).fn⟩
  have neg : Sf P w K mg base 4 cR "__neg__" (spNeg cR) := ⟨_, (Ty.FnOk.r (fn_d F_Ratio_neg scNeg (fun _ => rfl) fun d hd => body_neg made rF d hd) (F_Ratio_neg.bindsN (fun _ _ _ _ _ _ us hl => match us, hl with | [_], _ => rfl))), ((He.meth_ok (z.f 72))).at_, ((He.meth_ok (z.f 72))).fn⟩
  have eqR : Sf P w K mg base 1 cR "__eq__" (spEq cR) := ⟨_, (Ty.FnOk.r (fn_d F_Ratio_eq scEq (fun _ => rfl) fun d _ => body_eq b rF d) (F_Ratio_eq.bindsN (fun _ _ _ _ _ _ us hl => match us, hl with | [_, _], _ => rfl))), ((He.meth_ok (z.f 73))).at_, ((He.meth_ok (z.f 73))).fn⟩
  have neR : Nef P w K mg base 1 cR (spEq cR) := ⟨_, (Ty.FnOk.r (fn_d F_Ratio_eq scEq (fun _ => rfl) fun d _ => body_eq b rF d) (F_Ratio_eq.bindsN (fun _ _ _ _ _ _ us hl => match us, hl with | [_, _], _ => rfl))), ⟨(He.meth_ok (z.f 73)).at_, (He.meth_ok (z.f 73)).fn, He.eqO_ok (He.ba (z.e 6)).1, someB_ok (He.ba (z.e 6)).2⟩⟩
  have under : Mf P w K mg base 1 cR "under" (spUnder cR) := ⟨_, (Ty.FnOk.r (fn_d F_Ratio_under scUnder (fun _ => rfl) fun d hd => body_under rF d hd) (F_Ratio_under.bindsN (fun _ _ _ _ _ _ us hl => match us, hl with | [_, _], _ => rfl))), clcR, (He.meth_ok (z.f 75))⟩
  have rM : RaM P w K mg base cR := ⟨rF, (z.e 4), made, whole, add, sub, neg, eqR, neR, under⟩
  have mkF : Mkf P w K mg base 1 cF (spFI cR cF) := mk_fees b c fF F_Fees_init (He.mkr_ok (z.f 78))
  have mkW : Mkf P w K mg base 1 cW (spWI cW) := mk_worths b c wF F_Worths_init (He.mkr_ok (z.f 90))
  have mkU : Mkf P w K mg base 1 cU (spRI cU) := mk_rule b c uF F_Rule_init (He.mkr_ok (z.f 99))
  have wrow : Mf P w K mg base 1 cW "row" (spWR cW) := ⟨_, (Ty.FnOk.r (fn_d F_Worths_row scWR (fun _ => rfl) fun d hd => body_wr b wF d hd) (F_Worths_row.bindsN (fun _ _ _ _ _ _ us hl => match us, hl with | [_, _], _ => rfl))), clcW, (He.meth_ok (z.f 92))⟩
  have wcall : Cof P w K mg base 2 cW (spWC cW) := ⟨_, (Ty.FnOk.r (fn_d F_Worths_call scWC (fun _ => rfl) fun d hd => body_wc wrow wF d hd) (F_Worths_call.bindsN (fun _ _ _ _ _ _ us hl => match us, hl with | [_, _, _], _ => rfl))), ⟨((He.meth_ok (z.f 91))).at_, ((He.meth_ok (z.f 91))).fn, (z.e 10)⟩⟩
  have ucall : Cof P w K mg base 1 cU (spRC cU) := ⟨_, (Ty.FnOk.r (fn_d F_Rule_call scRC (fun _ => rfl) fun d hd => body_rc b uF d hd) (F_Rule_call.bindsN (fun _ _ _ _ _ _ us hl => match us, hl with | [_, _], _ => rfl))), ⟨((He.meth_ok (z.f 100))).at_, ((He.meth_ok (z.f 100))).fn, (z.e 11)⟩⟩
  have fcall : Cof P w K mg base 1 cF (spFC cR cF) := ⟨_, (Ty.FnOk.r (fn_d F_Fees_call scFC (fun _ => rfl) fun d hd => body_fc b fF d hd) (F_Fees_call.bindsN (fun _ _ _ _ _ _ us hl => match us, hl with | [_, _], _ => rfl))), ⟨((He.meth_ok (z.f 79))).at_, ((He.meth_ok (z.f 79))).fn, (z.e 9)⟩⟩
  have ulen : Sf P w K mg base 1 cU "__len__" (spRL cU) := ⟨_, (Ty.FnOk.r (fn_d F_Rule_len scRL (fun _ => rfl) fun d _ => body_rl b uF d) (F_Rule_len.bindsN (fun _ _ _ _ _ _ us hl => match us, hl with | [_], _ => rfl))), ((He.meth_ok (z.f 101))).at_, ((He.meth_ok (z.f 101))).fn⟩
  have flen : Sf P w K mg base 1 cF "__len__" (spFL cR cF) := ⟨_, (Ty.FnOk.r (fn_d F_Fees_len scFL (fun _ => rfl) fun d _ => body_fl b fF d) (F_Fees_len.bindsN (fun _ _ _ _ _ _ us hl => match us, hl with | [_], _ => rfl))), ((He.meth_ok (z.f 80))).at_, ((He.meth_ok (z.f 80))).fn⟩
  have uit : Itf P w K mg base 1 cU "outcomes" := ⟨_, it_rule b uF F_Rule_iter, (He.meth_ok (z.f 102)).at_, (He.meth_ok (z.f 102)).fn⟩
  have fit : Itf P w K mg base 1 cF "amounts" := ⟨_, it_fees b fF F_Fees_iter, (He.meth_ok (z.f 81)).at_, (He.meth_ok (z.f 81)).fn⟩
  have uln : Sf P w K mg base 1 cU "__len__" (Ow.spLn K cU "outcomes") := ⟨_, ln_rule b uF F_Rule_len, (He.meth_ok (z.f 101)).at_, (He.meth_ok (z.f 101)).fn⟩
  have fln : Sf P w K mg base 1 cF "__len__" (Ow.spLn K cF "amounts") := ⟨_, ln_fees b fF F_Fees_len, (He.meth_ok (z.f 80)).at_, (He.meth_ok (z.f 80)).fn⟩
  have cr : Gf P w K mg base 5 "check_rule" (spCR cW cU) := Gf.of (fn_d F_check_rule scCR (fun _ => rfl) fun d hd => body_cr b wF uF ulen uit d hd) (F_check_rule.bindsN (fun _ _ _ _ _ _ us hl => match us, hl with | [_, _], _ => rfl)) (He.glo_ok X N (z.f 25)) F_check_rule.kp
  have ck : Gf P w K mg base 1 "check_kinds" (spCK cW) := Gf.of (fn_d F_check_kinds scCK (fun _ => rfl) fun d hd => body_ck wF d hd) (F_check_kinds.bindsN (fun _ _ _ _ _ _ us hl => match us, hl with | [_, _], _ => rfl)) (He.glo_ok X N (z.f 27)) F_check_kinds.kp
  have cf : Gf P w K mg base 6 "check_fees" (spCF cR cF cW cU) := Gf.of (fn_d F_check_fees scCF (fun _ => rfl) fun d hd => body_cf b wF cr flen d hd) (F_check_fees.bindsN (fun _ _ _ _ _ _ us hl => match us, hl with | [_, _, _], _ => rfl)) (He.glo_ok X N (z.f 26)) F_check_fees.kp
  have lo : Gf P w K mg base 6 "loss" (spLo cW cU) := Gf.of (fn_d F_loss scLo (fun _ => rfl) fun d hd => body_lo cr ck wcall ucall d hd) (F_loss.bindsN (fun _ _ _ _ _ _ us hl => match us, hl with | [_, _, _, _], _ => rfl)) (He.glo_ok X N (z.f 28)) F_loss.kp
  have li : Gf P w K mg base 1 "lies" spLies := Gf.of (fn_d F_lies scLies (fun _ => rfl) fun d hd => body_lies b d hd) (F_lies.bindsN (fun _ _ _ _ _ _ us hl => match us, hl with | [_], _ => rfl)) (He.glo_ok X N (z.f 30)) F_lies.kp
  have ga : Gf P w K mg base 7 "gain" (spGa cR cF cW cU) := Gf.of (fn_d F_gain scGa (fun _ => rfl) fun d hd => body_ga rM cf lo fcall d hd) (F_gain.bindsN (fun _ _ _ _ _ _ us hl => match us, hl with | [_, _, _, _, _], _ => rfl)) (He.glo_ok X N (z.f 29)) F_gain.kp
  have gaM : GaM P w K mg base cR cF cW cU := ⟨ga, li, cf, cr, ck, lo⟩
  have bl : Gf P w K mg base 8 "best_lie" (spBL cR cF cW cU) := Gf.of (fn_d F_best_lie scBL (fun _ => rfl) fun d hd => body_bl rM wF gaM d hd) (F_best_lie.bindsN (fun _ _ _ _ _ _ us hl => match us, hl with | [_, _, _], _ => rfl)) (He.glo_ok X N (z.f 31)) F_best_lie.kp
  have mo : Gf P w K mg base 9 "most_gain" (spMG cR cF cW cU) := Gf.of (fn_d F_most_gain scMG (fun _ => rfl) fun d hd => body_mg gaM bl d hd) (F_most_gain.bindsN (fun _ _ _ _ _ _ us hl => match us, hl with | [_, _, _], _ => rfl)) (He.glo_ok X N (z.f 32)) F_most_gain.kp
  have it : Gf P w K mg base 9 "is_true" (spIT cR cF cW cU) := Gf.of (fn_d F_is_true scIT (fun _ => rfl) fun d hd => body_it rM gaM bl d hd) (F_is_true.bindsN (fun _ _ _ _ _ _ us hl => match us, hl with | [_, _, _], _ => rfl)) (He.glo_ok X N (z.f 33)) F_is_true.kp
  have rs : Gf P w K mg base 8 "ring_sum" (spRS cW cU) := Gf.of (fn_d F_ring_sum scRS (fun _ => rfl) fun d hd => body_rs b gaM d hd) (F_ring_sum.bindsN (fun _ _ _ _ _ _ us hl => match us, hl with | [_, _, _], _ => rfl)) (He.glo_ok X N (z.f 34)) F_ring_sum.kp
  have tu : Gf P w K mg base 1 "turned" spTu := Gf.of (fn_d F_turned scTu (fun _ => rfl) fun _ _ => body_tu b) (F_turned.bindsN (fun _ _ _ _ _ _ us hl => match us, hl with | [_], _ => rfl)) (He.glo_ok X N (z.f 35)) F_turned.kp
  have yr : Mf P w K mg base 1 cY "round_sum" (spYr cY) := ⟨_, (Ty.FnOk.r (fn_o F_Ways_round_sum scYr (fun _ => rfl) fun d hd => body_yr b yF d hd) (F_Ways_round_sum.bindsN (fun _ _ _ _ _ _ us hl => match us, hl with | [_, _], _ => rfl))), clcY, (He.meth_ok (z.f 86))⟩
  have ys : Mf P w K mg base 65 cY "simple" (spYs cY 64) := mf_simple b yr F_Ways_simple clcY (He.meth_ok (z.f 87)) 64 (Nat.le_refl _)
  have bend : Mf P w K mg base 66 cY "bend" (spYb cY) := ⟨_, Ty.FnOk.r (ok_bend b yF tu li ys F_Ways_bend) (F_Ways_bend.bindsN (fun _ _ _ _ _ _ us hl => match us, hl with | [_, _], _ => rfl)), clcY, (He.meth_ok (z.f 85))⟩
  have yi : Mkf P w K mg base 67 cY (spYi cY cW cU) := ⟨_, (Ty.FnOk.r (fn_o F_Ways_init scYi (fun _ => rfl) fun d hd => body_yi b yF wF gaM bend d hd) (F_Ways_init.bindsN (fun _ _ _ _ _ _ us hl => match us, hl with | [_, _, _], _ => rfl))), (He.mkr_ok (z.f 84))⟩
  have rn : Gf P w K mg base 69 "ring_or_none" (spRN cW cU) := Gf.of (fn_d F_ring_or_none scRN (fun _ => rfl) fun d hd => body_rn yF yi d hd) (F_ring_or_none.bindsN (fun _ _ _ _ _ _ us hl => match us, hl with | [_, _], _ => rfl)) (He.glo_ok X N (z.f 38)) F_ring_or_none.kp
  have cb : Gf P w K mg base 70 "can_be_true" (spCB cW cU) := Gf.of (fn_d F_can_be_true scCB (fun _ => rfl) fun d hd => body_cb rn d hd) (F_can_be_true.bindsN (fun _ _ _ _ _ _ us hl => match us, hl with | [_, _], _ => rfl)) (He.glo_ok X N (z.f 37)) F_can_be_true.kp
  have wo : Gf P w K mg base 69 "ways_of" (spWO cY cW cU) := Gf.of (fn_d F_ways_of scWO (fun _ => rfl) fun d hd => body_wo yF yi d hd) (F_ways_of.bindsN (fun _ _ _ _ _ _ us hl => match us, hl with | [_, _], _ => rfl)) (He.glo_ok X N (z.f 36)) F_ways_of.kp
  have bg : Gf P w K mg base 5 "begin_of" (spBG cR) := Gf.of (fn_d F_begin_of scBG (fun _ => rfl) fun d _ => body_bg rM d) (F_begin_of.bindsN (fun _ _ _ _ _ _ us hl => match us, hl with | [_], _ => rfl)) (He.glo_ok X N (z.f 39)) F_begin_of.kp
  have gfo : FnOk P w K mg base CX0 70 (He.ga K "greatest_fees") _ ["worths", "rule", "kind", "amount"] (spGF cR cF cW cU) := fn_d F_greatest_fees scGF (fun _ => rfl) fun d hd => body_gf b rM wF fF yF gaM wo bg mkF d hd
  have lfo : FnOk P w K mg base CX0 70 (He.ga K "least_fees") _ ["worths", "rule", "kind", "amount"] (spLF cR cF cW cU) := fn_d F_least_fees scLF (fun _ => rfl) fun d hd => body_lf b rM wF fF yF gaM wo bg mkF d hd
  have gk1 : Gk P w K mg base 70 "greatest_fees" 2 ["kind"] [.non] (spGF cR cF cW cU) := gk1_gf F_greatest_fees gfo (He.glo_ok X N (z.f 40))
  have gk2 : Gk P w K mg base 70 "greatest_fees" 2 ["kind", "amount"] [] (spGF cR cF cW cU) := gk2_gf F_greatest_fees gfo (He.glo_ok X N (z.f 40))
  have gf0 : Gf P w K mg base 70 "greatest_fees" (fun vs H Q E => spGF cR cF cW cU (vs ++ ds0) H Q E) := gf0_of (st := top 38) rfl F_greatest_fees gfo (He.glo_ok X N (z.f 40))
  have lf0 : Gf P w K mg base 70 "least_fees" (fun vs H Q E => spLF cR cF cW cU (vs ++ ds0) H Q E) := gf0_lf F_least_fees lfo (He.glo_ok X N (z.f 41))
  have sp : Gf P w K mg base 70 "spread" (spSP cR cW cU) := Gf.of (fn_d F_spread scSP (fun _ => rfl) fun d hd => body_sp rM yF gaM wo d hd) (F_spread.bindsN (fun _ _ _ _ _ _ us hl => match us, hl with | [_, _, _, _], _ => rfl)) (He.glo_ok X N (z.f 42)) F_spread.kp
  have io : Gf P w K mg base 70 "is_only" (spIO cW cU) := Gf.of (fn_d F_is_only scIO (fun _ => rfl) fun d hd => body_io b wF yF gaM wo d hd) (F_is_only.bindsN (fun _ _ _ _ _ _ us hl => match us, hl with | [_, _], _ => rfl)) (He.glo_ok X N (z.f 43)) F_is_only.kp
  have gr : Gf P w K mg base 2 "greatest" (spGr cR) := Gf.of (fn_d F_greatest scGr (fun _ => rfl) fun d hd => body_gr b under d hd) (F_greatest.bindsN (fun _ _ _ _ _ _ us hl => match us, hl with | [_], _ => rfl)) (He.glo_ok X N (z.f 23)) F_greatest.kp
  have ls : Gf P w K mg base 2 "least" (spLs cR) := Gf.of (fn_d F_least scLs (fun _ => rfl) fun d hd => body_ls b under d hd) (F_least.bindsN (fun _ _ _ _ _ _ us hl => match us, hl with | [_], _ => rfl)) (He.glo_ok X N (z.f 24)) F_least.kp
  have c2 : Gf P w K mg base 6 "check_two" (spC2 cW cU) := Gf.of (fn_d F_check_two scC2 (fun _ => rfl) fun d hd => body_c2 wF gaM d hd) (F_check_two.bindsN (fun _ _ _ _ _ _ us hl => match us, hl with | [_, _], _ => rfl)) (He.glo_ok X N (z.f 44)) F_check_two.kp
  have ro : Gf P w K mg base 8 "rounds" (spRo cW cU) := Gf.of (fn_d F_rounds scRo (fun _ => rfl) fun d hd => body_ro b wF gaM d hd) (F_rounds.bindsN (fun _ _ _ _ _ _ us hl => match us, hl with | [_, _], _ => rfl)) (He.glo_ok X N (z.f 45)) F_rounds.kp
  have lm : Gf P w K mg base 9 "least_mean" (spLM cR cW cU) := Gf.of (fn_d F_least_mean scLM (fun _ => rfl) fun d hd => body_lm b rM wF gr ls ro d hd) (F_least_mean.bindsN (fun _ _ _ _ _ _ us hl => match us, hl with | [_, _], _ => rfl)) (He.glo_ok X N (z.f 46)) F_least_mean.kp
  have lg : Gf P w K mg base 10 "least_gain" (spLG cR cW cU) := Gf.of (fn_d F_least_gain scLG (fun _ => rfl) fun d hd => body_lg rM c2 lm d hd) (F_least_gain.bindsN (fun _ _ _ _ _ _ us hl => match us, hl with | [_, _], _ => rfl)) (He.glo_ok X N (z.f 47)) F_least_gain.kp
  have su : Gf P w K mg base 8 "least_sums" (spSu cR cW cU) := Gf.of (fn_d F_least_sums scLSu (fun _ => rfl) fun d hd => body_su b rM wF gaM d hd) (F_least_sums.bindsN (fun _ _ _ _ _ _ us hl => match us, hl with | [_, _, _], _ => rfl)) (He.glo_ok X N (z.f 48)) F_least_sums.kp
  have fw : Gf P w K mg base 9 "fees_within" (spFW cR cF cW cU) := Gf.of (fn_d F_fees_within scFW (fun _ => rfl) fun d hd => body_fw fF c2 su mkF d hd) (F_fees_within.bindsN (fun _ _ _ _ _ _ us hl => match us, hl with | [_, _, _], _ => rfl)) (He.glo_ok X N (z.f 49)) F_fees_within.kp
  have nf : Gf P w K mg base 11 "nearest_fees" (spNF cR cF cW cU) := Gf.of (fn_d F_nearest_fees scNF (fun _ => rfl) fun d hd => body_nf lg fw d hd) (F_nearest_fees.bindsN (fun _ _ _ _ _ _ us hl => match us, hl with | [_, _], _ => rfl)) (He.glo_ok X N (z.f 50)) F_nearest_fees.kp
  have ic : Gf P w K mg base 1 "is_count" spIC := Gf.of (fn_d F_is_count scIC (fun _ => rfl) fun d hd => body_ic b c d hd) (F_is_count.bindsN (fun _ _ _ _ _ _ us hl => match us, hl with | [_], _ => rfl)) (He.glo_ok X N (z.f 21)) F_is_count.kp
  have tp : Gf P w K mg base 2 "is_top" spTop := Gf.of (fn_d F_is_top scIT2 (fun _ => rfl) fun d hd => body_top ic d hd) (F_is_top.bindsN (fun _ _ _ _ _ _ us hl => match us, hl with | [_], _ => rfl)) (He.glo_ok X N (z.f 22)) F_is_top.kp
  have rr : Cm P w K mg base 4 cR "read" (spRR cR) := ⟨_, _, _, (Ty.FnOk.r (fn_d F_Ratio_read scRR (fun _ => rfl) fun d hd => body_rr b tp ic made d hd) (F_Ratio_read.bindsN (fun _ _ _ _ _ _ us hl => match us, hl with | [_, _], _ => rfl))), rdB_ok (z.e 12), cmB_ok (z.e 17)⟩
  have ur : Cm P w K mg base 3 cU "read" (spUR cU) := ⟨_, _, _, (Ty.FnOk.r (fn_d F_Rule_read scUR (fun _ => rfl) fun d hd => body_ur b tp mkU d hd) (F_Rule_read.bindsN (fun _ _ _ _ _ _ us hl => match us, hl with | [_, _], _ => rfl))), rdB_ok (z.e 15), cmB_ok (z.e 20)⟩
  have wd : Cm P w K mg base 3 cW "read" (spWD cW) := ⟨_, _, _, (Ty.FnOk.r (fn_d F_Worths_read scWD (fun _ => rfl) fun d hd => body_wd b tp mkW d hd) (F_Worths_read.bindsN (fun _ _ _ _ _ _ us hl => match us, hl with | [_, _], _ => rfl))), rdB_ok (z.e 14), cmB_ok (z.e 19)⟩
  have fd : Cm P w K mg base 5 cF "read" (spFD cR cF) := ⟨_, _, _, (Ty.FnOk.r (fn_d F_Fees_read scFD (fun _ => rfl) fun d hd => body_fd b rF rr mkF d hd) (F_Fees_read.bindsN (fun _ _ _ _ _ _ us hl => match us, hl with | [_, _], _ => rfl))), rdB_ok (z.e 13), cmB_ok (z.e 18)⟩
  have rs9 : Sf P w K mg base 1 cR "__str__" (spRS9 cR) := ⟨_, (Ty.FnOk.r (fn_d F_Ratio_str scRS9 (fun _ => rfl) fun d hd => body_rs9 b rF d hd) (F_Ratio_str.bindsN (fun _ _ _ _ _ _ us hl => match us, hl with | [_], _ => rfl))), ((He.meth_ok (z.f 74))).at_, ((He.meth_ok (z.f 74))).fn⟩
  have ws : Sf P w K mg base 1 cW "__str__" (spWS cW) := ⟨_, (Ty.FnOk.r (fn_d F_Worths_str scWS (fun _ => rfl) fun d hd => body_ws b wF d hd) (F_Worths_str.bindsN (fun _ _ _ _ _ _ us hl => match us, hl with | [_], _ => rfl))), ((He.meth_ok (z.f 95))).at_, ((He.meth_ok (z.f 95))).fn⟩
  have lw : Gf P w K mg base 4 "_law_worths" (spLW cW) := Gf.of (fn_d F__law_worths scLW (fun _ => rfl) fun d hd => body_lw b wF wd d hd) (F__law_worths.bindsN (fun _ _ _ _ _ _ us hl => match us, hl with | [_], _ => rfl)) (He.glo_ok X N (z.f 56)) F__law_worths.kp
  have lr : Gf P w K mg base 4 "_law_rule" (spLR cU) := Gf.of (fn_d F__law_rule scLR (fun _ => rfl) fun d hd => body_lr b uF ur d hd) (F__law_rule.bindsN (fun _ _ _ _ _ _ us hl => match us, hl with | [_], _ => rfl)) (He.glo_ok X N (z.f 57)) F__law_rule.kp
  have lfe : Gf P w K mg base 6 "_law_fees" (spLFe cR cF) := Gf.of (fn_d F__law_fees scLF2 (fun _ => rfl) fun d hd => body_lfe b fF rs9 fd d hd) (F__law_fees.bindsN (fun _ _ _ _ _ _ us hl => match us, hl with | [_], _ => rfl)) (He.glo_ok X N (z.f 58)) F__law_fees.kp
  have lp : Gf P w K mg base 5 "_law_pair" (spLP cW cU) := Gf.of (fn_d F__law_pair scLP (fun _ => rfl) fun d hd => body_lp lw lr d hd) (F__law_pair.bindsN (fun _ _ _ _ _ _ us hl => match us, hl with | [_, _], _ => rfl)) (He.glo_ok X N (z.f 60)) F__law_pair.kp
  have we : Sf P w K mg base 1 cW "__eq__" (spWE cW) := ⟨_, (Ty.FnOk.r (fn_d F_Worths_eq scWE (fun _ => rfl) fun d _ => body_we b wF d) (F_Worths_eq.bindsN (fun _ _ _ _ _ _ us hl => match us, hl with | [_, _], _ => rfl))), ((He.meth_ok (z.f 93))).at_, ((He.meth_ok (z.f 93))).fn⟩
  have neW : Nef P w K mg base 1 cW (spWE cW) := ⟨_, (Ty.FnOk.r (fn_d F_Worths_eq scWE (fun _ => rfl) fun d _ => body_we b wF d) (F_Worths_eq.bindsN (fun _ _ _ _ _ _ us hl => match us, hl with | [_, _], _ => rfl))), ⟨(He.meth_ok (z.f 93)).at_, (He.meth_ok (z.f 93)).fn, He.eqO_ok (He.ba (z.e 7)).1, someB_ok (He.ba (z.e 7)).2⟩⟩
  have neU : Nef P w K mg base 1 cU (spUE cU) := ⟨_, (Ty.FnOk.r (fn_d F_Rule_eq scUE (fun _ => rfl) fun d _ => body_ue b uF d) (F_Rule_eq.bindsN (fun _ _ _ _ _ _ us hl => match us, hl with | [_, _], _ => rfl))), ⟨(He.meth_ok (z.f 103)).at_, (He.meth_ok (z.f 103)).fn, He.eqO_ok (He.ba (z.e 8)).1, someB_ok (He.ba (z.e 8)).2⟩⟩
  have wa : Sf P w K mg base 3 cW "__add__" (spWA cW) := ⟨_, (Ty.FnOk.r (fn_d F_Worths_add scWA (fun _ => rfl) fun d hd => body_wa b wF mkW d hd) (F_Worths_add.bindsN (fun _ _ _ _ _ _ us hl => match us, hl with | [_, _], _ => rfl))), ((He.meth_ok (z.f 94))).at_, ((He.meth_ok (z.f 94))).fn⟩
  have ww : Mf P w K mg base 3 cW "with_worth" (spWW cW) := ⟨_, (Ty.FnOk.r (fn_d F_Worths_with_worth scWW (fun _ => rfl) fun d hd => body_ww b wF mkW wrow d hd) (F_Worths_with_worth.bindsN (fun _ _ _ _ _ _ us hl => match us, hl with | [_, _, _, _], _ => rfl))), clcW, (He.meth_ok (z.f 96))⟩
  have uw : Mf P w K mg base 3 cU "with_outcome" (spUW cU) := ⟨_, (Ty.FnOk.r (fn_d F_Rule_with_outcome scUW (fun _ => rfl) fun d hd => body_uw b uF mkU d hd) (F_Rule_with_outcome.bindsN (fun _ _ _ _ _ _ us hl => match us, hl with | [_, _, _], _ => rfl))), clcU, (He.meth_ok (z.f 104))⟩
  have bag : Gf P w K mg base 1 "_law_bag" spBag := Gf.of (ok_bag b F__law_bag) (F__law_bag.bindsN (fun _ _ _ _ _ _ us hl => match us, hl with | [_], _ => rfl)) (He.glo_ok X N (z.f 51)) F__law_bag.kp
  have dr : Gf P w K mg base 1 "_law_draw" spDr := gf_draw b F__law_draw (He.glo_ok X N (z.f 52))
  have at_ : Gf P w K mg base 1 "_law_at" (spAt K) := Gf.of (fn_d F__law_at scAt (fun _ => rfl) fun d _ => body_at b d) (F__law_at.bindsN (fun _ _ _ _ _ _ us hl => match us, hl with | [_, _], _ => rfl)) (He.glo_ok X N (z.f 53)) F__law_at.kp
  have nu : Gf P w K mg base 2 "_law_numbers" spNu := Gf.of (fn_o F__law_numbers scNu (fun _ => rfl) fun d hd => body_nu b dr d hd) (F__law_numbers.bindsN (fun _ _ _ _ _ _ us hl => match us, hl with | [_, _, _], _ => rfl)) (He.glo_ok X N (z.f 54)) F__law_numbers.kp
  have to : Gf P w K mg base 2 "_law_told_row" spTo := Gf.of (fn_o F__law_told_row scTo (fun _ => rfl) fun d hd => body_to b dr d hd) (F__law_told_row.bindsN (fun _ _ _ _ _ _ us hl => match us, hl with | [_, _], _ => rfl)) (He.glo_ok X N (z.f 55)) F__law_told_row.kp
  have rg : Gf P w K mg base 2 "_law_rings" spRg := Gf.of (fn_d F__law_rings scRg (fun _ => rfl) fun d hd => body_rg b d hd) (F__law_rings.bindsN (fun _ _ _ _ _ _ us hl => match us, hl with | [_], _ => rfl)) (He.glo_ok X N (z.f 59)) F__law_rings.kp
  have lM : LawM P w K mg base cR cF cW cU := { b := b, r := rM, wf := wF, uf := uF, ff := fF, dr := dr, lp := lp, lw := lw, lr := lr, lf := lfe, rg := rg, rs := rs, cb := cb, lg := lg, bl := bl, mo := mo, it := it, nf := nf, gk1 := gk1, gk2 := gk2, gf0 := gf0, lf0 := lf0, sp := sp, io := io, gr := gr, itF := fit, lnF := fln, itU := uit, lnU := uln, neW := neW, eqW := we, neU := neU, adW := wa, fiW := (z.e 5), stW := ws, ww := ww, uw := uw }
  have pr : Gf P w K mg base 72 "_law_priced_right" spLaw5 := Gf.of (fn_o F__law_priced_right scPr (fun _ => rfl) fun d hd => body_pr lM d hd) (F__law_priced_right.bindsN (fun _ _ _ _ _ _ us hl => match us, hl with | [_, _, _], _ => rfl)) (He.glo_ok X N (z.f 61)) F__law_priced_right.kp
  have tw : Gf P w K mg base 72 "_law_twin_right" spLaw5 := Gf.of (fn_o F__law_twin_right scTw (fun _ => rfl) fun d hd => body_tw lM d hd) (F__law_twin_right.bindsN (fun _ _ _ _ _ _ us hl => match us, hl with | [_, _, _], _ => rfl)) (He.glo_ok X N (z.f 62)) F__law_twin_right.kp
  have un : Gf P w K mg base 72 "_law_unused_right" spLaw5 := Gf.of (fn_o F__law_unused_right scUn (fun _ => rfl) fun d hd => body_un lM d hd) (F__law_unused_right.bindsN (fun _ _ _ _ _ _ us hl => match us, hl with | [_, _, _], _ => rfl)) (He.glo_ok X N (z.f 63)) F__law_unused_right.kp
  have fr : Gf P w K mg base 72 "_law_fewer_right" spLaw5 := Gf.of (fn_o F__law_fewer_right scFr (fun _ => rfl) fun d hd => body_fr lM d hd) (F__law_fewer_right.bindsN (fun _ _ _ _ _ _ us hl => match us, hl with | [_, _, _], _ => rfl)) (He.glo_ok X N (z.f 64)) F__law_fewer_right.kp
  have ha : Gf P w K mg base 72 "_law_handed_right" spLaw5 := Gf.of (fn_o F__law_handed_right scHa (fun _ => rfl) fun d hd => body_ha lM d hd) (F__law_handed_right.bindsN (fun _ _ _ _ _ _ us hl => match us, hl with | [_, _, _], _ => rfl)) (He.glo_ok X N (z.f 65)) F__law_handed_right.kp
  have lT : LawT P w K mg base := ⟨b, bag, dr, at_, nu, to, pr, tw, un, fr, ha⟩
  exact fn_d F_law scLaw (fun _ => rfl) fun d hd => body_law lT d hd
end Tf
end
section
/-! The end. -/
namespace Tf
open PySem PySem.Spec PyProof.Rows L2 Ty
theorem AllP.nums (ns : List Int) (H : Hp) : Ty.AllP (ns.map IsI) (ns.map V.int) H := by
  induction ns with
  | nil => exact trivial
  | cons n r ih => exact ⟨rfl, ih⟩
theorem law_say {K : Fg} {H : Hp} {a : Addr} {ns : List Int} (hn : ns.length ≤ 63) (hS : SqL K H a (ns.map V.int)) : spLaw K [.ref a] H (fun v _ => v = .bl true) fun _ _ _ => False :=
  ⟨ns, H, Nat.le_trans hn (by decide), Ex.refl H, ⟨LsK.of hS (AllP.nums ns H), trivial⟩, fun v G' H' _ p => p⟩
theorem law_end {P : Program} {w : World} {K : Fg} {mg : Str → Option Value} {hp : Heap} {fa : Addr} (z : Told faZ fnZ exZ K) (X : K.In hp) (N : hp.Ns mainGlobals mg) (hm : mg ("law" : Str) = some (.ref fa)) :
    ∃ fd : FuncData, (∀ (s : Shared) (u : Value), BindsTo s fd ⟨[u], []⟩ [("_law_script", u)]) ∧ ∀ base : Heap, FnOk P w K mg base CX0 74 fa fd ["_law_script"] (spLaw K) := by
  obtain ⟨fd, F, hl, ok⟩ := law_all z X N
  have e := hm.symm.trans hl
  cases e
  have b := FunD.bindsA (ps := ["_law_script"]) F fun _ _ _ _ _ _ us hl => match us, hl with | [_], _ => rfl
  exact ⟨fd, fun s v => b s [v] rfl, fun base => ok P w base⟩
end Tf
end
section
open PySem PySem.W PySem.Calls PyProof.Rows
theorem PySem.Challenge.cw_truthfees_k05_whole_priced_twins_and_few_holds : PySem.Challenge.rw_truthfees_k05_whole_priced_twins_and_few.Holds := by
  w_on; o_law
  refine HandSHeadRun.head_any (r := OpenLaw.row PySem.Challenge.rw_truthfees_k05_whole_priced_twins_and_few) (q := view (OpenLaw.row PySem.Challenge.rw_truthfees_k05_whole_priced_twins_and_few).prog [73]) (H := Tf.hkZ) (ob := Tf.obZ) (M := 60000) (loose := Tf.names) (d := HandSHeadRun.topDef (OpenLaw.row PySem.Challenge.rw_truthfees_k05_whole_priced_twins_and_few).prog 73) (kwd := []) Tf.obZ_eq
    (by kernel_rfl) (fun s => by kernel_rfl) Tf.runZ (by kernel_rfl) (by kernel_rfl) (by kernel_rfl) (by rfl) (by first | assumption | decide +kernel) (by decide +kernel) ⟨rfl, rfl, rfl, rfl, rfl, by decide +kernel⟩ ?hw ?hc
  case hw => w_witness2
  case hc =>
    refine L2.walk_ofE (l := PySem.Challenge.rw_truthfees_k05_whole_priced_twins_and_few) (n := 63) (k := 74) (x := "_law_script") (CX := L2.CX0) rfl (by decide) (by kernel_rfl) ⟨rfl, by decide, by decide⟩ ?F (fun _ _ _ _ z => z)
    intro w mg fa hp Y G hmg0
    obtain ⟨K, KX, c⟩ := Y
    have hmg : mg ("law" : PySem.Str) = some (.ref fa) := by
      have e : (HandSHeadRun.topDef (OpenLaw.row PySem.Challenge.rw_truthfees_k05_whole_priced_twins_and_few).prog 73).name = ("law" : PySem.Str) := by kernel_rfl
      rw [← e]
      exact hmg0
    obtain ⟨fd, hb, hF⟩ := Tf.law_end (P := (PySem.Challenge.rw_truthfees_k05_whole_priced_twins_and_few).prog) (w := w) c KX G hmg
    exact ⟨K, fd, Tf.spLaw K, KX, hb, fun H a ns hl _ hS => Tf.law_say hl hS, fun base _ _ => hF base⟩
end
