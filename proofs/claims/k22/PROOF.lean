import PyProof.Rows.All
import Wide.All
import OpenK.AllK
import Wide.FinOn
import HandS.ForMost
import HandS.ForExc
import HandS.CallSlots
import HandS.RevRange
import HandS.SortInts
import HandS.IsInst
import HandS.Style
import PySem.Challenge.RW_surgekept_k22_courses_narrowed_and_raise
set_option Elab.async false
set_option linter.all false
set_option maxRecDepth 100000
set_option maxHeartbeats 2000000
/-! P1: pure data over the tracked heap; what an expression gives, what a statement comes to. -/
namespace SK
open PySem L2

/-! ### heaps -/
def Sub (G H : Hp) : Prop := ∀ a o, G a = some o → H a = some o
theorem Sub.refl (H : Hp) : Sub H H := fun _ _ h => h
theorem Sub.trans {G H I : Hp} (a : Sub G H) (b : Sub H I) : Sub G I := fun x o h => b x o (a x o h)
theorem Sub.fre {G H : Hp} (e : Sub G H) {p : Addr} (h : H p = none) : G p = none := by
  cases q : G p with
  | none => rfl
  | some o => rw [e p o q] at h; cases h
theorem Sub.ins {G : Hp} {p : Addr} {o : HO} (h : G p = none) : Sub G (upd G p o) := fun a u e => by
  rw [upd_ne (ne_of_none e h)]; exact e
theorem Sub.ins2 {G H : Hp} {p : Addr} {o : HO} (e : Sub G H) : Sub (upd G p o) (upd H p o) := fun a u h => by
  by_cases q : a = p
  · subst q; rw [upd_same] at h ⊢; exact h
  · rw [upd_ne q] at h ⊢; exact e a u h
theorem Sub.insR {G H : Hp} {p : Addr} {o : HO} (e : Sub G H) (h : G p = none) : Sub G (upd H p o) := fun a u z => by
  rw [upd_ne (ne_of_none z h)]; exact e a u z

/-! ### assertions about a value -/
structure A where
  P : Hp → V → Prop
  mono : ∀ {G G' : Hp} {v : V}, Sub G G' → P G v → P G' v
def aV (x : V) : A := ⟨fun _ v => v = x, fun _ h => h⟩
abbrev aInt (i : Int) : A := aV (.int i)
abbrev aBool (b : Bool) : A := aV (.bl b)
abbrev aStr (s : Str) : A := aV (.str s)
abbrev aNone : A := aV .non
def aOpt {α : Type} (f : α → A) : Option α → A
  | none => aNone
  | some x => f x
abbrev Are (G : Hp) : List A → List V → Prop := Paired fun a v => a.P G v
theorem Are.mono {G G' : Hp} (e : Sub G G') : ∀ {as : List A} {vs : List V}, Are G as vs → Are G' as vs
  | _, _, .nil => .nil
  | _, _, .cons h t => .cons (A.mono _ e h) (Are.mono e t)
def aLst (xs : List A) : A := ⟨fun G v => ∃ p vs, v = .ref p ∧ G p = some (.lst vs) ∧ Are G xs vs, fun e ⟨p, vs, h, g, r⟩ => ⟨p, vs, h, e _ _ g, r.mono e⟩⟩
def aTup (xs : List A) : A := ⟨fun G v => ∃ p vs, v = .ref p ∧ G p = some (.tup vs) ∧ Are G xs vs, fun e ⟨p, vs, h, g, r⟩ => ⟨p, vs, h, e _ _ g, r.mono e⟩⟩
/-- the fields of an instance, by name -/
abbrev AreF (G : Hp) : List (Str × A) → List (Str × V) → Prop := Paired fun f w => f.1 = w.1 ∧ f.2.P G w.2
theorem AreF.mono {G G' : Hp} (e : Sub G G') : ∀ {as : List (Str × A)} {vs : List (Str × V)}, AreF G as vs → AreF G' as vs
  | _, _, .nil => .nil
  | _, _, .cons h t => .cons ⟨h.1, A.mono _ e h.2⟩ (AreF.mono e t)
def aIns (C : Addr) (fs : List (Str × A)) : A := ⟨fun G v => ∃ p dx vs, v = .ref p ∧ G p = some (.ins C dx vs) ∧ AreF G fs vs, fun e ⟨p, dx, vs, h, g, r⟩ => ⟨p, dx, vs, h, e _ _ g, r.mono e⟩⟩
/-- the script, as the law is handed it -/
def aScr (K : PySem.W.Frag) (ns : List Int) : A := ⟨fun G v => ∃ p, v = .ref p ∧ SqL K G p (ns.map V.int), fun e ⟨p, h, g⟩ => ⟨p, h, by
  rcases g with (g | ⟨o, g⟩) | g
  · exact .inl (.inl (e _ _ g))
  · exact .inl (.inr ⟨o, e _ _ g⟩)
  · exact .inr g⟩⟩

/-! ### what an own (changing) object holds -/
structure Cl where
  P : Hp → HO → Prop
  mono : ∀ {G G' : Hp} {o : HO}, Sub G G' → P G o → P G' o
def cLst (xs : List A) : Cl := ⟨fun G o => ∃ vs, o = .lst vs ∧ Are G xs vs, fun e ⟨vs, h, r⟩ => ⟨vs, h, r.mono e⟩⟩
def cIns (C : Addr) (fs : List (Str × A)) : Cl := ⟨fun G o => ∃ dx vs, o = .ins C dx vs ∧ AreF G fs vs, fun e ⟨dx, vs, h, r⟩ => ⟨dx, vs, h, r.mono e⟩⟩
inductive Sl where
  | un | im (a : A) | ow (q : Option Addr) (c : Cl)

structure EnvOk (B : Hp × Hp) (G H : Hp) (σ : L2.St) (Γ : List Sl) : Prop where
  gg : Sub B.1 G
  hh : Sub B.2 H
  fr : ∀ a o, B.2 a = some o → G a = B.1 a
  gh : Sub G H
  im : ∀ (i : Nat) (a : A), Γ[i]? = some (.im a) → ∃ v, σ[i]? = some (some v) ∧ a.P G v
  ow : ∀ (i : Nat) (q : Option Addr) (c : Cl), Γ[i]? = some (.ow q c) → ∃ p o, σ[i]? = some (some (.ref p)) ∧ H p = some o ∧ c.P G o ∧ G p = none ∧ B.2 p = none ∧ ∀ p0, q = some p0 → p = p0
  ap : ∀ (i j : Nat) (u v : Option Addr) (c d : Cl) (p : Addr), Γ[i]? = some (.ow u c) → Γ[j]? = some (.ow v d) → σ[i]? = some (some (.ref p)) → σ[j]? = some (some (.ref p)) → i = j
structure Step (G H G' H' : Hp) : Prop where
  gg : Sub G G'
  hh : Sub H H'
  fr : ∀ a o, H a = some o → G' a = G a
  gh : Sub G' H'
theorem Step.refl {G H : Hp} (e : Sub G H) : Step G H G H := ⟨.refl _, .refl _, fun _ _ _ => rfl, e⟩
theorem Step.trans {G H G1 H1 G2 H2 : Hp} (a : Step G H G1 H1) (b : Step G1 H1 G2 H2) : Step G H G2 H2 :=
  ⟨a.gg.trans b.gg, a.hh.trans b.hh, fun x o h => (b.fr x o (a.hh x o h)).trans (a.fr x o h), b.gh⟩
/-- a new object that is kept as it is -/
theorem Step.new {G H : Hp} {p : Addr} {o : HO} (e : Sub G H) (h : H p = none) : Step G H (upd G p o) (upd H p o) :=
  ⟨.ins (e.fre h), .ins h, fun a u z => upd_ne (ne_of_none z h), e.ins2⟩
/-- a new object that may change -/
theorem Step.newH {G H : Hp} {p : Addr} {o : HO} (e : Sub G H) (h : H p = none) : Step G H G (upd H p o) :=
  ⟨.refl _, .ins h, fun a u z => rfl, e.insR (e.fre h)⟩
section
variable {B : Hp × Hp} {G H G' H' : Hp} {σ : L2.St} {Γ : List Sl}
theorem EnvOk.step (en : EnvOk B G H σ Γ) (st : Step G H G' H') : EnvOk B G' H' σ Γ where
  gg := en.gg.trans st.gg
  hh := en.hh.trans st.hh
  fr := fun a o h => (st.fr a o (en.hh a o h)).trans (en.fr a o h)
  gh := st.gh
  im := fun i a h => let ⟨v, e, p⟩ := en.im i a h; ⟨v, e, a.mono st.gg p⟩
  ow := fun i q c h => let ⟨p, o, e, h1, h2, h3, h4, h5⟩ := en.ow i q c h; ⟨p, o, e, st.hh _ _ h1, c.mono st.gg h2, (st.fr p o h1).trans h3, h4, h5⟩
  ap := en.ap
theorem EnvOk.base (en : EnvOk B G H σ Γ) : Step B.1 B.2 G H := ⟨en.gg, en.hh, en.fr, en.gh⟩
/-- what one does not need is forgotten -/
inductive Le : List Sl → List Sl → Prop
  | nil {g : List Sl} : Le g []
  | un {s : Sl} {g g2 : List Sl} : Le g g2 → Le (s :: g) (.un :: g2)
  | same {s : Sl} {g g2 : List Sl} : Le g g2 → Le (s :: g) (s :: g2)
theorem Le.refl : ∀ {Γ : List Sl}, Le Γ Γ
  | [] => .nil
  | _ :: _ => .same Le.refl
theorem Le.get : ∀ {Γ Γ' : List Sl} {i : Nat} {s : Sl}, Le Γ Γ' → Γ'[i]? = some s → s = .un ∨ Γ[i]? = some s
  | _, _, i, _, .nil, h => by simp at h
  | _, _, 0, _, .un _, h => by simp at h; exact .inl h.symm
  | _, _, i + 1, s, .un t, h => by
    have := Le.get (i := i) (s := s) t (by simpa using h)
    simpa using this
  | _, _, 0, _, .same _, h => .inr (by simpa using h)
  | _, _, i + 1, s, .same t, h => by
    have := Le.get (i := i) (s := s) t (by simpa using h)
    simpa using this
theorem EnvOk.le {Γ' : List Sl} (en : EnvOk B G H σ Γ) (l : Le Γ Γ') : EnvOk B G H σ Γ' := by
  refine ⟨en.gg, en.hh, en.fr, en.gh, fun i a h => ?_, fun i q c h => ?_, fun i j u v c d p h1 h2 => ?_⟩
  · rcases l.get h with z | z
    · cases z
    · exact en.im i a z
  · rcases l.get h with z | z
    · cases z
    · exact en.ow i q c z
  · rcases l.get h1 with z | z
    · cases z
    · rcases l.get h2 with y | y
      · cases y
      · exact en.ap i j u v c d p z y
theorem get_set_of {α : Type} {l : List α} {i j : Nat} {x y : α} (h : (l.set i x)[j]? = some y) : (i = j ∧ x = y) ∨ (i ≠ j ∧ l[j]? = some y) := by
  by_cases e : i = j
  · subst e
    by_cases hl : i < l.length
    · rw [List.getElem?_set_self hl] at h; exact .inl ⟨rfl, Option.some.inj h⟩
    · rw [List.getElem?_eq_none (by rw [List.length_set]; omega)] at h; cases h
  · rw [List.getElem?_set_ne e] at h; exact .inr ⟨e, h⟩
/-- a slot takes a value -/
theorem EnvOk.set {i : Nat} {a : A} {v : V} (en : EnvOk B G H σ Γ) (hi : i < σ.length) (p : a.P G v) : EnvOk B G H (σ.set i (some v)) (Γ.set i (.im a)) := by
  refine ⟨en.gg, en.hh, en.fr, en.gh, fun j b h => ?_, fun j u c h => ?_, fun j k u w c d q h1 h2 => ?_⟩
  · rcases get_set_of h with ⟨rfl, e⟩ | ⟨ne, h⟩
    · cases e; exact ⟨v, List.getElem?_set_self hi, p⟩
    · rw [List.getElem?_set_ne ne]; exact en.im j b h
  · rcases get_set_of h with ⟨rfl, e⟩ | ⟨ne, h⟩
    · cases e
    · rw [List.getElem?_set_ne ne]; exact en.ow j u c h
  · rcases get_set_of h1 with ⟨rfl, e⟩ | ⟨ne1, h1⟩
    · cases e
    · rcases get_set_of h2 with ⟨rfl, e⟩ | ⟨ne2, h2⟩
      · cases e
      · rw [List.getElem?_set_ne ne1, List.getElem?_set_ne ne2]; exact en.ap j k u w c d q h1 h2
/-- a slot takes a new object that may change -/
theorem EnvOk.setOw {i : Nat} {c : Cl} {q : Addr} {o : HO} (en : EnvOk B G H σ Γ) (hi : i < σ.length) (hq : H q = none) (p : c.P G o) : EnvOk B G (upd H q o) (σ.set i (some (.ref q))) (Γ.set i (.ow none c)) := by
  have st : Step G H G (upd H q o) := .newH en.gh hq
  have en' := en.step st
  have ne : ∀ {b u}, H b = some u → b ≠ q := fun h => ne_of_none h hq
  refine ⟨en'.gg, en'.hh, en'.fr, en'.gh, fun j b h => ?_, fun j m d h => ?_, fun j k m m' d d' r h1 h2 e1 e2 => ?_⟩
  · rcases get_set_of h with ⟨rfl, e⟩ | ⟨ne, h⟩
    · cases e
    · rw [List.getElem?_set_ne ne]; exact en'.im j b h
  · rcases get_set_of h with ⟨rfl, e⟩ | ⟨ne, h⟩
    · cases e; exact ⟨q, o, List.getElem?_set_self hi, upd_same, p, en.gh.fre hq, en.hh.fre hq, fun _ z => nomatch z⟩
    · rw [List.getElem?_set_ne ne]; exact en'.ow j m d h
  · rcases get_set_of h1 with ⟨rfl, z1⟩ | ⟨ne1, h1⟩
    · rcases get_set_of h2 with ⟨rfl, z2⟩ | ⟨ne2, h2⟩
      · rfl
      · rw [List.getElem?_set_self hi] at e1
        rw [List.getElem?_set_ne ne2] at e2
        cases e1
        obtain ⟨p', o', f1, f2, _⟩ := en.ow k m' d' h2
        rw [e2] at f1; cases f1
        rw [hq] at f2; cases f2
    · rcases get_set_of h2 with ⟨rfl, z2⟩ | ⟨ne2, h2⟩
      · rw [List.getElem?_set_self hi] at e2
        rw [List.getElem?_set_ne ne1] at e1
        cases e2
        obtain ⟨p', o', f1, f2, _⟩ := en.ow j m d h1
        rw [e1] at f1; cases f1
        rw [hq] at f2; cases f2
      · rw [List.getElem?_set_ne ne1] at e1
        rw [List.getElem?_set_ne ne2] at e2
        exact en.ap j k m m' d d' r h1 h2 e1 e2
/-- an own object changes -/
theorem EnvOk.chg {i : Nat} {c c' : Cl} {q : Addr} {o' : HO} {m : Option Addr} (en : EnvOk B G H σ Γ) (hi : Γ[i]? = some (.ow m c)) (hs : σ[i]? = some (some (.ref q))) (p : c'.P G o') : EnvOk B G (upd H q o') σ (Γ.set i (.ow m c')) := by
  obtain ⟨q', o, e1, e2, e3, e4, e5, e6⟩ := en.ow i m c hi
  rw [hs] at e1; cases e1
  have hi' : i < Γ.length := (List.getElem?_eq_some_iff.mp hi).1
  refine ⟨en.gg, fun a u h => ?_, en.fr, en.gh.insR e4, fun j b h => ?_, fun j n d h => ?_, fun j k n n' d d' r h1 h2 f1 f2 => ?_⟩
  · rw [upd_ne (ne_of_none h e5)]; exact en.hh a u h
  · rcases get_set_of h with ⟨rfl, e⟩ | ⟨ne, h⟩
    · cases e
    · exact en.im j b h
  · rcases get_set_of h with ⟨rfl, e⟩ | ⟨ne, h⟩
    · cases e; exact ⟨q, o', hs, upd_same, p, e4, e5, e6⟩
    · obtain ⟨p2, o2, f1, f2, f3, f4, f5⟩ := en.ow j n d h
      have : p2 ≠ q := fun z => by subst z; exact ne (en.ap i j _ _ c d _ hi h hs f1)
      exact ⟨p2, o2, f1, by rw [upd_ne this]; exact f2, f3, f4, f5⟩
  · have g1 : ∃ m1 c1, Γ[j]? = some (.ow m1 c1) := by
      rcases get_set_of h1 with ⟨rfl, z⟩ | ⟨_, h1⟩
      · exact ⟨m, c, hi⟩
      · exact ⟨_, _, h1⟩
    have g2 : ∃ m1 c1, Γ[k]? = some (.ow m1 c1) := by
      rcases get_set_of h2 with ⟨rfl, z⟩ | ⟨_, h2⟩
      · exact ⟨m, c, hi⟩
      · exact ⟨_, _, h2⟩
    obtain ⟨m1, c1, g1⟩ := g1
    obtain ⟨m2, c2, g2⟩ := g2
    exact en.ap j k m1 m2 c1 c2 r g1 g2 f1 f2
/-- an own object is kept as it is from here on -/
def Frz (c : Cl) (a : A) : Prop := ∀ G p o, c.P G o → G p = none → a.P (upd G p o) (.ref p)
theorem EnvOk.frz {i : Nat} {c : Cl} {a : A} {m : Option Addr} (en : EnvOk B G H σ Γ) (hi : Γ[i]? = some (.ow m c)) (f : Frz c a) : ∃ G', Sub G G' ∧ EnvOk B G' H σ (Γ.set i (.im a)) := by
  obtain ⟨q, o, e1, e2, e3, e4, e5, e6⟩ := en.ow i m c hi
  have sb : Sub G (upd G q o) := .ins e4
  refine ⟨upd G q o, sb, en.gg.trans sb, en.hh, fun b u h => ?_, fun b u h => ?_, fun j b h => ?_, fun j n d h => ?_, fun j k n n' d d' r h1 h2 f1 f2 => ?_⟩
  · rw [upd_ne (ne_of_none h e5)]; exact en.fr b u h
  · by_cases z : b = q
    · subst z; rw [upd_same] at h; cases h; exact e2
    · rw [upd_ne z] at h; exact en.gh b u h
  · rcases get_set_of h with ⟨rfl, e⟩ | ⟨ne, h⟩
    · cases e; exact ⟨.ref q, e1, f G q o e3 e4⟩
    · obtain ⟨v, f1, f2⟩ := en.im j b h; exact ⟨v, f1, b.mono sb f2⟩
  · rcases get_set_of h with ⟨rfl, e⟩ | ⟨ne, h⟩
    · cases e
    · obtain ⟨p2, o2, f1, f2, f3, f4, f5⟩ := en.ow j n d h
      have nq : p2 ≠ q := fun z => by subst z; exact ne (en.ap i j _ _ c d _ hi h e1 f1)
      exact ⟨p2, o2, f1, f2, d.mono sb f3, by rw [upd_ne nq]; exact f4, f5⟩
  · rcases get_set_of h1 with ⟨rfl, z⟩ | ⟨_, h1⟩
    · cases z
    · rcases get_set_of h2 with ⟨rfl, z⟩ | ⟨_, h2⟩
      · cases z
      · exact en.ap j k n n' d d' r h1 h2 f1 f2
end
theorem frz_lst {xs : List A} : Frz (cLst xs) (aLst xs) := fun G p o h n => by
  obtain ⟨vs, rfl, r⟩ := h
  exact ⟨p, vs, rfl, upd_same, r.mono (.ins n)⟩
theorem frz_ins {C : Addr} {fs : List (Str × A)} : Frz (cIns C fs) (aIns C fs) := fun G p o h n => by
  obtain ⟨dx, vs, rfl, r⟩ := h
  exact ⟨p, dx, vs, rfl, upd_same, r.mono (.ins n)⟩

/-! ### results -/
/-- the errors of the program -/
inductive Er where
  | works | course | state | move | command | line (n : Int)
  deriving DecidableEq
inductive R (α : Type) where
  | ok (x : α) | ex (e : Er) | bad
namespace R
variable {α β : Type}
def bind (r : R α) (f : α → R β) : R β := match r with
  | ok x => f x
  | ex e => ex e
  | bad => bad
/-- what must be there -/
def need (r : R α) (f : α → R β) : R β := match r with
  | ok x => f x
  | ex _ => bad
  | bad => bad
def map (f : α → β) (r : R α) : R β := match r with
  | ok x => ok (f x)
  | ex e => ex e
  | bad => bad
end R
/-- what of an exception's own dict is known -/
def ErP : Er → Option Addr → Hp → Prop
  | .line n, d, H => ∃ dd, d = some dd ∧ H dd = some (.xd [("line", .int n)])
  | _, d, _ => d = none
inductive Out where
  | nx (Γ : List Sl) | rt (a : A) | bk (Γ : List Sl) | ct (Γ : List Sl) | ex (e : Er) (Γ : List Sl) | bad

/-! ### what code does, as a reading -/
def tE (X : Cx) (e : Expr) : TE := fun σ H Q => ∀ pins s, Inv X pins σ H s → wpAny (model X.prog X.w) X.A (eval e X.env) (EP X pins σ Q) X.xe s
def tT (X : Cx) (e : Expr) : TT := fun σ H Q => ∀ pins s, Inv X pins σ H s → wpAny (model X.prog X.w) X.A (isTrue e X.env (eval e X.env)) (TP X pins σ Q) X.xe s
def tW (X : Cx) (e : Expr) : TT := fun σ H Q => ∀ whole pins s, Inv X pins σ H s → wpAny (model X.prog X.w) X.A (isTrue e X.env whole) (TP X pins σ Q) X.xe s
def tA (X : Cx) (es : List Expr) : TA := fun σ H Q => ∀ pos pins s, Inv X pins σ H s → wpAny (model X.prog X.w) X.A (spliced (backTo pos (starEach es X.env))) (AP X pins σ Q) X.xe s
def tS (X : Cx) (sts : List Stmt) : TS := fun D σ H => ∀ pins s, Inv X pins σ H s → wpAny (model X.prog X.w) X.A (execs sts X.env) (SP X pins D) X.xe s
def t1 (X : Cx) (st : Stmt) : TS := fun D σ H => ∀ pins s, Inv X pins σ H s → wpAny (model X.prog X.w) X.A (exec st X.env) (SP X pins D) X.xe s
def tG (X : Cx) (tg : Expr) : TG := fun v σ H Q => ∀ pins s u, Inv X pins σ H s → RelV v u → wpAny (model X.prog X.w) X.A (assign tg X.env u) (fun _ s' => ∃ σ' H', Inv X pins σ' H' s' ∧ Q σ' H') X.xe s
theorem pe_self {X : Cx} {e : Expr} : PE X e (tE X e) := ⟨fun pins s σ H Q I h => h pins s I⟩
theorem pt_self {X : Cx} {e : Expr} : PT X e (tT X e) := ⟨fun pins s σ H Q I h => h pins s I⟩
theorem pw_self {X : Cx} {e : Expr} : PW X e (tW X e) := ⟨fun wh pins s σ H Q I h => h wh pins s I⟩
theorem pa_self {X : Cx} {es : List Expr} : PA X es (tA X es) := ⟨fun pos pins s σ H Q I h => h pos pins s I⟩
theorem pss_self {X : Cx} {sts : List Stmt} : PSs X sts (tS X sts) := ⟨fun pins s σ H D I h => h pins s I⟩
theorem ps_self {X : Cx} {st : Stmt} : PS X st (t1 X st) := ⟨fun pins s σ H D I h => h pins s I⟩
theorem pg_self {X : Cx} {tg : Expr} : PG X tg (tG X tg) := ⟨fun pins s σ H v u Q I r h => h pins s u I r⟩

/-! ### the judgements -/
def PostE (cl : Er → Addr) (W : WX) (G H : Hp) (σ : L2.St) (Q : VK) : R A → Prop
  | .ok a => ∀ v G' H', Step G H G' H' → a.P G' v → Q v H'
  | .ex e => ∀ d G' H', Step G H G' H' → ErP e d H' → W (.ref (cl e)) d σ H'
  | .bad => False
def PostT (cl : Er → Addr) (W : WX) (G H : Hp) (σ : L2.St) (Q : Bool → Hp → Prop) : R Bool → Prop
  | .ok b => ∀ G' H', Step G H G' H' → Q b H'
  | .ex e => ∀ d G' H', Step G H G' H' → ErP e d H' → W (.ref (cl e)) d σ H'
  | .bad => False
def PostA (G H : Hp) (Q : List V → Hp → Prop) (as : List A) : Prop := ∀ vs G' H', Step G H G' H' → Are G' as vs → Q vs H'
def PostS (cl : Er → Addr) (W : WX) (B : Hp × Hp) (D : Ends) : Out → Prop
  | .nx Γ => ∀ σ G H, EnvOk B G H σ Γ → D.nx σ H
  | .bk Γ => ∀ σ G H, EnvOk B G H σ Γ → D.bk σ H
  | .ct Γ => ∀ σ G H, EnvOk B G H σ Γ → D.ct σ H
  | .rt a => ∀ v G H, Step B.1 B.2 G H → a.P G v → D.rt v H
  | .ex e Γ => ∀ d σ G H, EnvOk B G H σ Γ → ErP e d H → W (.ref (cl e)) d σ H
  | .bad => False
/-- the expression gives r -/
def EE (cl : Er → Addr) (X : Cx) (W : WX) (e : Expr) (Γ : List Sl) (r : R A) : Prop := ∀ B σ G H Q, EnvOk B G H σ Γ → PostE cl W G H σ Q r → tE X e σ H Q
def TD (cl : Er → Addr) (X : Cx) (W : WX) (e : Expr) (Γ : List Sl) (r : R Bool) : Prop := ∀ B σ G H Q, EnvOk B G H σ Γ → PostT cl W G H σ Q r → tT X e σ H Q
def TDw (cl : Er → Addr) (X : Cx) (W : WX) (e : Expr) (Γ : List Sl) (r : R Bool) : Prop := ∀ B σ G H Q, EnvOk B G H σ Γ → PostT cl W G H σ Q r → tW X e σ H Q
def EA (cl : Er → Addr) (X : Cx) (W : WX) (es : List Expr) (Γ : List Sl) (as : List A) : Prop := ∀ B σ G H Q, EnvOk B G H σ Γ → PostA G H Q as → tA X es σ H Q
/-- the statements come to o -/
def SD (cl : Er → Addr) (X : Cx) (W : WX) (sts : List Stmt) (Γ : List Sl) (o : Out) : Prop := ∀ B D σ G H, EnvOk B G H σ Γ → PostS cl W B D o → tS X sts D σ H
def S1 (cl : Er → Addr) (X : Cx) (W : WX) (st : Stmt) (Γ : List Sl) (o : Out) : Prop := ∀ B D σ G H, EnvOk B G H σ Γ → PostS cl W B D o → t1 X st D σ H

section
variable {cl : Er → Addr} {X : Cx} {W : WX} {e : Expr} {es : List Expr} {Γ : List Sl}
theorem ee_pe {t : TE} {r : R A} (h : PE X e t) (ev : ∀ B σ G H Q, EnvOk B G H σ Γ → PostE cl W G H σ Q r → t σ H Q) : EE cl X W e Γ r :=
  fun B σ G H Q en po pins s I => h.run pins s σ H Q I (ev B σ G H Q en po)
theorem td_pt {t : TT} {r : R Bool} (h : PT X e t) (ev : ∀ B σ G H Q, EnvOk B G H σ Γ → PostT cl W G H σ Q r → t σ H Q) : TD cl X W e Γ r :=
  fun B σ G H Q en po pins s I => h.run pins s σ H Q I (ev B σ G H Q en po)
theorem ea_pa {t : TA} {as : List A} (h : PA X es t) (ev : ∀ B σ G H Q, EnvOk B G H σ Γ → PostA G H Q as → t σ H Q) : EA cl X W es Γ as :=
  fun B σ G H Q en po pos pins s I => h.run pos pins s σ H Q I (ev B σ G H Q en po)
theorem s1_ps {st : Stmt} {t : TS} {o : Out} (h : PS X st t) (ev : ∀ B D σ G H, EnvOk B G H σ Γ → PostS cl W B D o → t D σ H) : S1 cl X W st Γ o :=
  fun B D σ G H en po pins s I => h.run pins s σ H D I (ev B D σ G H en po)
theorem ee_bad : EE cl X W e Γ .bad := fun _ _ _ _ _ _ h => False.elim h
theorem td_bad : TD cl X W e Γ .bad := fun _ _ _ _ _ _ h => False.elim h
theorem sd_bad {sts : List Stmt} : SD cl X W sts Γ .bad := fun _ _ _ _ _ _ h => False.elim h
theorem ee_need {α : Type} {r : R α} {k : α → R A} (h : ∀ v, r = .ok v → EE cl X W e Γ (k v)) : EE cl X W e Γ (r.need k) := by
  cases r with
  | ok v => exact h v rfl
  | ex _ => exact ee_bad
  | bad => exact ee_bad
theorem td_need {α : Type} {r : R α} {k : α → R Bool} (h : ∀ v, r = .ok v → TD cl X W e Γ (k v)) : TD cl X W e Γ (r.need k) := by
  cases r with
  | ok v => exact h v rfl
  | ex _ => exact td_bad
  | bad => exact td_bad
theorem ee_at {α : Type} {r : R α} {f : α → A} {v : α} (h : EE cl X W e Γ (r.map f)) (q : r = .ok v) : EE cl X W e Γ (.ok (f v)) := by
  subst q; exact h
theorem PostE.step {G H G1 H1 : Hp} {σ : L2.St} {Q : VK} {r : R A} (p : PostE cl W G H σ Q r) (st : Step G H G1 H1) : PostE cl W G1 H1 σ Q r := by
  cases r with
  | ok a => exact fun v G' H' s q => p v G' H' (st.trans s) q
  | ex e => exact fun d G' H' s q => p d G' H' (st.trans s) q
  | bad => exact p
theorem PostT.step {G H G1 H1 : Hp} {σ : L2.St} {Q : Bool → Hp → Prop} {r : R Bool} (p : PostT cl W G H σ Q r) (st : Step G H G1 H1) : PostT cl W G1 H1 σ Q r := by
  cases r with
  | ok a => exact fun G' H' s => p G' H' (st.trans s)
  | ex e => exact fun d G' H' s q => p d G' H' (st.trans s) q
  | bad => exact p
theorem PostA.step {G H G1 H1 : Hp} {Q : List V → Hp → Prop} {as : List A} (p : PostA G H Q as) (st : Step G H G1 H1) : PostA G1 H1 Q as :=
  fun v G' H' s q => p v G' H' (st.trans s) q
end
end SK

set_option Elab.async false
set_option linter.all false
set_option maxRecDepth 100000
set_option maxHeartbeats 2000000
/-! P2: rules for expressions. -/
namespace SK
open PySem L2

/-- the names of a context -/
structure Fb (X : Cx) (N : List Str) (sc : Scope) : Prop where
  nN : X.N = N
  nd : N.Nodup
  vis : ∀ x, Vis sc x → Vis X.env.scope x
  sto : ∀ x, Loc sc x → Loc X.env.scope x ∧ (X.fn x = true ∨ X.env.scope.names.lookup x = some .local)
  gl : ∀ x, sc.names.lookup x = some .globalImplicit → Gl X x
/-- the facts of a context where nothing is handled -/
structure Fc (X : Cx) (W : WX) (N : List Str) (sc : Scope) (k : Nat) : Prop where
  b : Fb X N sc
  calm : X.calm = true
  room : Room k X.A
  pas : PassesOwn (model X.prog X.w) X.A X.env X.xe
  tk : Takes X W

section
variable {cl : Er → Addr} {X : Cx} {W : WX} {N : List Str} {sc : Scope} {k : Nat} {Γ : List Sl} {pos : Pos}

/-! ### names, constants -/
theorem ee_var (F : Fb X N sc) (i : Nat) {x : Str} {a : A} (hΓ : Γ[i]? = some (.im a)) (hN : N[i]? = some x := by rfl)
    (hv : Vis sc x := by first | exact Or.inl rfl | exact Or.inr (Or.inl rfl) | exact Or.inr (Or.inr rfl)) (hd : (x == ("__debug__" : Str)) = false := by decide) (hcd : (x == ("__classdict__" : Str)) = false := by decide) :
    EE cl X W (.Name x pos) Γ (.ok a) :=
  ee_pe (pe_var (i := i) (by rw [F.nN]; exact hN) (F.vis x hv) hd hcd) fun B σ G H Q en po => let ⟨v, e, p⟩ := en.im i a hΓ; ⟨v, e, po v G H (.refl en.gh) p⟩
theorem ee_c {e : Expr} {v : V} (h : PE X e (tC v)) : EE cl X W e Γ (.ok (aV v)) := ee_pe h fun B σ G H Q en po => po v G H (.refl en.gh) rfl
theorem ee_int {i : Int} {j} : EE cl X W (.Constant (.int i) j pos) Γ (.ok (aInt i)) := ee_c pe_int
theorem ee_bl {b : Bool} {j} : EE cl X W (.Constant (.bool b) j pos) Γ (.ok (aBool b)) := ee_c pe_bl
theorem ee_non {j} : EE cl X W (.Constant .none j pos) Γ (.ok aNone) := ee_c pe_non
theorem ee_str {s : Str} {j} : EE cl X W (.Constant (.str s) j pos) Γ (.ok (aStr s)) := ee_c pe_str
theorem ee_glob (F : Fb X N sc) {x : Str} {v : V} {u : Value} (hm : X.mg x = some u) (r : RelV v u) (hg : sc.names.lookup x = some .globalImplicit := by rfl) (hd : (x == ("__debug__" : Str)) = false := by decide) :
    EE cl X W (.Name x pos) Γ (.ok (aV v)) := ee_c (pe_glob (F.gl x hg) hm r hd)

/-! ### operators -/
variable {a b c : Expr} {a1 a2 a3 : A}
/-- what an operation on two values gives -/
def OpA (r : R2) (a1 a2 a3 : A) : Prop := ∀ (G H : Hp) (x y : V) (Q : VK), Sub G H → a1.P G x → a2.P G y → (∀ v G' H', Step G H G' H' → a3.P G' v → Q v H') → r x y H Q
theorem ee_tOp {ta tb : TE} {r : R2} (hta : ∀ B σ G H Q, EnvOk B G H σ Γ → (∀ v G' H', Step G H G' H' → a1.P G' v → Q v H') → ta σ H Q)
    (htb : ∀ B σ G H Q, EnvOk B G H σ Γ → (∀ v G' H', Step G H G' H' → a2.P G' v → Q v H') → tb σ H Q) (hr : OpA r a1 a2 a3) :
    ∀ B σ G H Q, EnvOk B G H σ Γ → (∀ v G' H', Step G H G' H' → a3.P G' v → Q v H') → tOp r ta tb σ H Q := fun B σ G H Q en po =>
  hta B σ G H _ en fun x G1 H1 s1 p1 => htb B σ G1 H1 _ (en.step s1) fun y G2 H2 s2 p2 => hr G2 H2 x y Q s2.gh (a1.mono s2.gg p1) p2 fun v G3 H3 s3 p3 => po v G3 H3 ((s1.trans s2).trans s3) p3
theorem ee_bin {op : Operator} {r : R2} (ho : OpR X (binaryOp op) r) (ha : EE cl X W a Γ (.ok a1)) (hb : EE cl X W b Γ (.ok a2)) (hr : OpA r a1 a2 a3) : EE cl X W (.BinOp a op b pos) Γ (.ok a3) :=
  ee_pe (pe_op ho pe_self pe_self) (ee_tOp ha hb hr)
theorem ee_cmp {op : CmpOp} {r : R2} (ho : OpR X (compareOp op) r) (ha : EE cl X W a Γ (.ok a1)) (hb : EE cl X W b Γ (.ok a2)) (hr : OpA r a1 a2 a3) (hm : behindInMarks op b = false) : EE cl X W (.Compare a [op] [b] pos) Γ (.ok a3) :=
  ee_pe (pe_cmpR ho pe_self pe_self hm) (ee_tOp ha hb hr)
theorem td_cmp {op : CmpOp} {r : R2} {t : Bool} (ho : OpR X (compareOp op) r) (ha : EE cl X W a Γ (.ok a1)) (hb : EE cl X W b Γ (.ok a2)) (hr : OpA r a1 a2 (aBool t)) (hm : behindInMarks op b = false) : TD cl X W (.Compare a [op] [b] pos) Γ (.ok t) :=
  td_pt (pt_cmpR ho pe_self pe_self hm) fun B σ G H Q en po => ee_tOp ha hb hr B σ G H _ en fun v G' H' st p => ⟨t, p, po G' H' st⟩
theorem opA_I0 {g : Int → Int → V} {i j : Int} : OpA (rI0 g) (aInt i) (aInt j) (aV (g i j)) := fun G H x y Q sb hx hy po => ⟨i, j, hx, hy, po _ G H (.refl sb) rfl⟩
theorem opA_I {C : Int → Int → Prop} {g : Int → Int → V} {i j : Int} (hc : C i j) : OpA (rI C g) (aInt i) (aInt j) (aV (g i j)) := fun G H x y Q sb hx hy po => ⟨i, j, hx, hy, hc, po _ G H (.refl sb) rfl⟩
theorem ee_add {i j : Int} (ha : EE cl X W a Γ (.ok (aInt i))) (hb : EE cl X W b Γ (.ok (aInt j))) : EE cl X W (.BinOp a .Add b pos) Γ (.ok (aInt (i + j))) := ee_bin op_add ha hb opA_I0
theorem ee_sub {i j : Int} (ha : EE cl X W a Γ (.ok (aInt i))) (hb : EE cl X W b Γ (.ok (aInt j))) : EE cl X W (.BinOp a .Sub b pos) Γ (.ok (aInt (i - j))) := ee_bin op_sub ha hb opA_I0
theorem ee_mul {i j : Int} (ha : EE cl X W a Γ (.ok (aInt i))) (hb : EE cl X W b Γ (.ok (aInt j))) (hc : CMul i j) : EE cl X W (.BinOp a .Mult b pos) Γ (.ok (aInt (i * j))) := ee_bin op_mul ha hb (opA_I hc)
theorem ee_div {i j : Int} (ha : EE cl X W a Γ (.ok (aInt i))) (hb : EE cl X W b Γ (.ok (aInt j))) (hc : CDiv i j) : EE cl X W (.BinOp a .FloorDiv b pos) Γ (.ok (aInt (i / j))) := ee_bin op_fdiv ha hb (opA_I hc)
theorem ee_mod {i j : Int} (ha : EE cl X W a Γ (.ok (aInt i))) (hb : EE cl X W b Γ (.ok (aInt j))) (hc : 0 < j) : EE cl X W (.BinOp a .Mod b pos) Γ (.ok (aInt (i % j))) := ee_bin op_mod ha hb (opA_I hc)
theorem ee_pow {i j : Int} (ha : EE cl X W a Γ (.ok (aInt i))) (hb : EE cl X W b Γ (.ok (aInt j))) (hc : CPow i j) : EE cl X W (.BinOp a .Pow b pos) Γ (.ok (aInt (i ^ j.toNat))) := ee_bin op_pow ha hb (opA_I hc)
theorem ee_neg {i : Int} (ha : EE cl X W a Γ (.ok (aInt i))) : EE cl X W (.UnaryOp .USub a pos) Γ (.ok (aInt (-i))) :=
  ee_pe (pe_un un_neg pe_self) fun B σ G H Q en po => ha B σ G H _ en fun v G' H' st p => ⟨i, p, po _ G' H' st rfl⟩
section
variable {i j : Int}
theorem ee_lt (ha : EE cl X W a Γ (.ok (aInt i))) (hb : EE cl X W b Γ (.ok (aInt j))) : EE cl X W (.Compare a [.Lt] [b] pos) Γ (.ok (aBool (decide (i < j)))) := ee_cmp op_lt ha hb opA_I0 (nomark _)
theorem ee_le (ha : EE cl X W a Γ (.ok (aInt i))) (hb : EE cl X W b Γ (.ok (aInt j))) : EE cl X W (.Compare a [.LtE] [b] pos) Γ (.ok (aBool (decide (i ≤ j)))) := ee_cmp op_le ha hb opA_I0 (nomark _)
theorem ee_gt (ha : EE cl X W a Γ (.ok (aInt i))) (hb : EE cl X W b Γ (.ok (aInt j))) : EE cl X W (.Compare a [.Gt] [b] pos) Γ (.ok (aBool (decide (j < i)))) := ee_cmp op_gt ha hb opA_I0 (nomark _)
theorem ee_ge (ha : EE cl X W a Γ (.ok (aInt i))) (hb : EE cl X W b Γ (.ok (aInt j))) : EE cl X W (.Compare a [.GtE] [b] pos) Γ (.ok (aBool (decide (j ≤ i)))) := ee_cmp op_ge ha hb opA_I0 (nomark _)
theorem td_lt (ha : EE cl X W a Γ (.ok (aInt i))) (hb : EE cl X W b Γ (.ok (aInt j))) : TD cl X W (.Compare a [.Lt] [b] pos) Γ (.ok (decide (i < j))) := td_cmp op_lt ha hb opA_I0 (nomark _)
theorem td_le (ha : EE cl X W a Γ (.ok (aInt i))) (hb : EE cl X W b Γ (.ok (aInt j))) : TD cl X W (.Compare a [.LtE] [b] pos) Γ (.ok (decide (i ≤ j))) := td_cmp op_le ha hb opA_I0 (nomark _)
theorem td_gt (ha : EE cl X W a Γ (.ok (aInt i))) (hb : EE cl X W b Γ (.ok (aInt j))) : TD cl X W (.Compare a [.Gt] [b] pos) Γ (.ok (decide (j < i))) := td_cmp op_gt ha hb opA_I0 (nomark _)
theorem td_ge (ha : EE cl X W a Γ (.ok (aInt i))) (hb : EE cl X W b Γ (.ok (aInt j))) : TD cl X W (.Compare a [.GtE] [b] pos) Γ (.ok (decide (j ≤ i))) := td_cmp op_ge ha hb opA_I0 (nomark _)
end
/-- == and != of plain values: ints, bools, texts, None -/
theorem opA_eq {x y : V} {t : Bool} (hs : scal x y = true) (ht : decide (x = y) = t) : OpA rEq (aV x) (aV y) (aBool t) := fun G H u v Q sb hx hy po => by
  subst hx hy ht; exact ⟨hs, po _ G H (.refl sb) rfl⟩
theorem opA_ne {x y : V} {t : Bool} (hs : scal x y = true) (ht : (!decide (x = y)) = t) : OpA rNe (aV x) (aV y) (aBool t) := fun G H u v Q sb hx hy po => by
  subst hx hy ht; exact ⟨hs, po _ G H (.refl sb) rfl⟩
theorem dec_V_int {i j : Int} : decide (V.int i = V.int j) = decide (i = j) := by
  by_cases e : i = j
  · subst e; simp
  · rw [decide_eq_false e, decide_eq_false (fun h => e (V.int.inj h))]
theorem dec_V_bl {i j : Bool} : decide (V.bl i = V.bl j) = decide (i = j) := by
  by_cases e : i = j
  · subst e; simp
  · rw [decide_eq_false e, decide_eq_false (fun h => e (V.bl.inj h))]
theorem dec_V_str {i j : Str} : decide (V.str i = V.str j) = decide (i = j) := by
  by_cases e : i = j
  · subst e; simp
  · rw [decide_eq_false e, decide_eq_false (fun h => e (V.str.inj h))]
section
variable {i j : Int} {p q : Bool} {s t : Str}
theorem ee_eqI (ha : EE cl X W a Γ (.ok (aInt i))) (hb : EE cl X W b Γ (.ok (aInt j))) : EE cl X W (.Compare a [.Eq] [b] pos) Γ (.ok (aBool (decide (i = j)))) := ee_cmp op_eq ha hb (opA_eq rfl dec_V_int) (nomark _)
theorem ee_neI (ha : EE cl X W a Γ (.ok (aInt i))) (hb : EE cl X W b Γ (.ok (aInt j))) : EE cl X W (.Compare a [.NotEq] [b] pos) Γ (.ok (aBool (!decide (i = j)))) := ee_cmp op_ne ha hb (opA_ne rfl (by rw [dec_V_int])) (nomark _)
theorem td_eqI (ha : EE cl X W a Γ (.ok (aInt i))) (hb : EE cl X W b Γ (.ok (aInt j))) : TD cl X W (.Compare a [.Eq] [b] pos) Γ (.ok (decide (i = j))) := td_cmp op_eq ha hb (opA_eq rfl dec_V_int) (nomark _)
theorem td_neI (ha : EE cl X W a Γ (.ok (aInt i))) (hb : EE cl X W b Γ (.ok (aInt j))) : TD cl X W (.Compare a [.NotEq] [b] pos) Γ (.ok (!decide (i = j))) := td_cmp op_ne ha hb (opA_ne rfl (by rw [dec_V_int])) (nomark _)
theorem ee_eqB (ha : EE cl X W a Γ (.ok (aBool p))) (hb : EE cl X W b Γ (.ok (aBool q))) : EE cl X W (.Compare a [.Eq] [b] pos) Γ (.ok (aBool (decide (p = q)))) := ee_cmp op_eq ha hb (opA_eq rfl dec_V_bl) (nomark _)
theorem ee_neB (ha : EE cl X W a Γ (.ok (aBool p))) (hb : EE cl X W b Γ (.ok (aBool q))) : EE cl X W (.Compare a [.NotEq] [b] pos) Γ (.ok (aBool (!decide (p = q)))) := ee_cmp op_ne ha hb (opA_ne rfl (by rw [dec_V_bl])) (nomark _)
theorem td_eqB (ha : EE cl X W a Γ (.ok (aBool p))) (hb : EE cl X W b Γ (.ok (aBool q))) : TD cl X W (.Compare a [.Eq] [b] pos) Γ (.ok (decide (p = q))) := td_cmp op_eq ha hb (opA_eq rfl dec_V_bl) (nomark _)
theorem td_neB (ha : EE cl X W a Γ (.ok (aBool p))) (hb : EE cl X W b Γ (.ok (aBool q))) : TD cl X W (.Compare a [.NotEq] [b] pos) Γ (.ok (!decide (p = q))) := td_cmp op_ne ha hb (opA_ne rfl (by rw [dec_V_bl])) (nomark _)
theorem ee_eqS (ha : EE cl X W a Γ (.ok (aStr s))) (hb : EE cl X W b Γ (.ok (aStr t))) : EE cl X W (.Compare a [.Eq] [b] pos) Γ (.ok (aBool (decide (s = t)))) := ee_cmp op_eq ha hb (opA_eq rfl dec_V_str) (nomark _)
theorem ee_neS (ha : EE cl X W a Γ (.ok (aStr s))) (hb : EE cl X W b Γ (.ok (aStr t))) : EE cl X W (.Compare a [.NotEq] [b] pos) Γ (.ok (aBool (!decide (s = t)))) := ee_cmp op_ne ha hb (opA_ne rfl (by rw [dec_V_str])) (nomark _)
theorem td_eqS (ha : EE cl X W a Γ (.ok (aStr s))) (hb : EE cl X W b Γ (.ok (aStr t))) : TD cl X W (.Compare a [.Eq] [b] pos) Γ (.ok (decide (s = t))) := td_cmp op_eq ha hb (opA_eq rfl dec_V_str) (nomark _)
theorem td_neS (ha : EE cl X W a Γ (.ok (aStr s))) (hb : EE cl X W b Γ (.ok (aStr t))) : TD cl X W (.Compare a [.NotEq] [b] pos) Γ (.ok (!decide (s = t))) := td_cmp op_ne ha hb (opA_ne rfl (by rw [dec_V_str])) (nomark _)
end
/-- is None: of a value that is known to be one or not -/
def NonA (a : A) (t : Bool) : Prop := ∀ G v, a.P G v → decide (v = V.non) = t
theorem nonA_opt {α : Type} {f : α → A} (h : ∀ x, NonA (f x) false) : ∀ o : Option α, NonA (aOpt f o) o.isNone
  | none => fun G v p => decide_eq_true p
  | some x => h x
theorem nonA_int {i : Int} : NonA (aInt i) false := fun G v p => by subst p; exact decide_eq_false (fun h => nomatch h)
theorem nonA_bl {i : Bool} : NonA (aBool i) false := fun G v p => by subst p; exact decide_eq_false (fun h => nomatch h)
theorem nonA_str {i : Str} : NonA (aStr i) false := fun G v p => by subst p; exact decide_eq_false (fun h => nomatch h)
theorem nonA_lst {xs : List A} : NonA (aLst xs) false := fun G v ⟨p, vs, h, _⟩ => by subst h; exact decide_eq_false (fun h => nomatch h)
theorem nonA_tup {xs : List A} : NonA (aTup xs) false := fun G v ⟨p, vs, h, _⟩ => by subst h; exact decide_eq_false (fun h => nomatch h)
theorem nonA_ins {C : Addr} {xs : List (Str × A)} : NonA (aIns C xs) false := fun G v ⟨p, dx, vs, h, _⟩ => by subst h; exact decide_eq_false (fun h => nomatch h)
section
variable {t : Bool} {j : Nat} {q : Pos}
theorem ee_isN (ha : EE cl X W a Γ (.ok a1)) (h : NonA a1 t) : EE cl X W (.Compare a [.Is] [.Constant .none j q] pos) Γ (.ok (aBool t)) :=
  ee_pe (pe_cmpR op_isN pe_self pe_non (nomark _)) fun B σ G H Q en po => ha B σ G H _ en fun v G' H' st p => ⟨rfl, by rw [h G' v p]; exact po _ G' H' st rfl⟩
theorem ee_notN (ha : EE cl X W a Γ (.ok a1)) (h : NonA a1 t) : EE cl X W (.Compare a [.IsNot] [.Constant .none j q] pos) Γ (.ok (aBool (!t))) :=
  ee_pe (pe_cmpR op_notN pe_self pe_non (nomark _)) fun B σ G H Q en po => ha B σ G H _ en fun v G' H' st p => ⟨rfl, by rw [h G' v p]; exact po _ G' H' st rfl⟩
theorem td_isN (ha : EE cl X W a Γ (.ok a1)) (h : NonA a1 t) : TD cl X W (.Compare a [.Is] [.Constant .none j q] pos) Γ (.ok t) :=
  td_pt (pt_cmpR op_isN pe_self pe_non (nomark _)) fun B σ G H Q en po => ha B σ G H _ en fun v G' H' st p => ⟨rfl, _, rfl, by rw [h G' v p]; exact po G' H' st⟩
theorem td_notN (ha : EE cl X W a Γ (.ok a1)) (h : NonA a1 t) : TD cl X W (.Compare a [.IsNot] [.Constant .none j q] pos) Γ (.ok (!t)) :=
  td_pt (pt_cmpR op_notN pe_self pe_non (nomark _)) fun B σ G H Q en po => ha B σ G H _ en fun v G' H' st p => ⟨rfl, _, rfl, by rw [h G' v p]; exact po G' H' st⟩
end
/-! a chain of two comparisons of ints -/
section
variable {i j m : Int} {op op' : CmpOp} {g g' : Int → Int → Bool}
theorem ee_chain (ho : OpR X (compareOp op) (rI0 fun i j => .bl (g i j))) (ho' : OpR X (compareOp op') (rI0 fun i j => .bl (g' i j))) (ha : EE cl X W a Γ (.ok (aInt i))) (hb : EE cl X W b Γ (.ok (aInt j))) (hc : EE cl X W c Γ (.ok (aInt m)))
    (hm : lastMarks [op, op'] [b, c] = false := by with_unfolding_all rfl) : EE cl X W (.Compare a [op, op'] [b, c] pos) Γ (.ok (aBool (g i j && g' j m))) :=
  ee_pe (pe_chain ho ho' pe_self pe_self pe_self hm) fun B σ G H Q en po => ha B σ G H _ en fun x G1 H1 s1 p1 => hb B σ G1 H1 _ (en.step s1) fun y G2 H2 s2 p2 => ⟨i, j, p1, p2, g i j, rfl, by
    cases hg : g i j with
    | false =>
      rw [hg] at po
      exact po _ G2 H2 (s1.trans s2) rfl
    | true =>
      rw [hg] at po
      exact hc B σ G2 H2 _ (en.step (s1.trans s2)) fun z G3 H3 s3 p3 => ⟨j, m, p2, p3, po _ G3 H3 ((s1.trans s2).trans s3) rfl⟩⟩
theorem td_chain (ho : OpR X (compareOp op) (rI0 fun i j => .bl (g i j))) (ho' : OpR X (compareOp op') (rI0 fun i j => .bl (g' i j))) (ha : EE cl X W a Γ (.ok (aInt i))) (hb : EE cl X W b Γ (.ok (aInt j))) (hc : EE cl X W c Γ (.ok (aInt m)))
    (hm : lastMarks [op, op'] [b, c] = false := by with_unfolding_all rfl) : TD cl X W (.Compare a [op, op'] [b, c] pos) Γ (.ok (g i j && g' j m)) :=
  td_pt (pt_chain ho ho' pe_self pe_self pe_self hm) fun B σ G H Q en po => ha B σ G H _ en fun x G1 H1 s1 p1 => hb B σ G1 H1 _ (en.step s1) fun y G2 H2 s2 p2 => ⟨i, j, p1, p2, g i j, rfl, by
    cases hg : g i j with
    | false =>
      rw [hg] at po
      exact ⟨_, rfl, po G2 H2 (s1.trans s2)⟩
    | true =>
      rw [hg] at po
      exact hc B σ G2 H2 _ (en.step (s1.trans s2)) fun z G3 H3 s3 p3 => ⟨j, m, p2, p3, _, rfl, po G3 H3 ((s1.trans s2).trans s3)⟩⟩
end

/-! ### tests -/
theorem td_val {t : Bool} (h : EE cl X W a Γ (.ok (aBool t))) (he : ∀ whole, isTrue a X.env whole = (do let v ← whole; standAt a.pos; holding [v] (truthy v)) := by intro _; rfl) : TD cl X W a Γ (.ok t) :=
  td_pt (pt_val pe_self he) fun B σ G H Q en po => h B σ G H _ en fun v G' H' st p => ⟨t, p, po G' H' st⟩
/-- of a value that is no bool: by what is known of its truth -/
def TruA (a : A) (t : Bool) : Prop := ∀ K G H v, Sub G H → a.P G v → TruV K v H t
theorem td_truth {t : Bool} (h : EE cl X W a Γ (.ok a1)) (ht : TruA a1 t) (he : ∀ whole, isTrue a X.env whole = (do let v ← whole; standAt a.pos; holding [v] (truthy v)) := by intro _; rfl) : TD cl X W a Γ (.ok t) :=
  td_pt (pt_truth pe_self he) fun B σ G H Q en po => h B σ G H _ en fun v G' H' st p => ⟨t, ht _ G' H' v st.gh p, po G' H' st⟩
theorem truA_lst {xs : List A} : TruA (aLst xs) (!xs.isEmpty) := fun K G H v sb ⟨p, vs, e, g, r⟩ => by
  subst e
  exact .inl ⟨vs, SqL.of (sb _ _ g), by cases r <;> rfl⟩
theorem td_not {r : Bool} (h : TD cl X W a Γ (.ok r)) : TD cl X W (.UnaryOp .Not a pos) Γ (.ok (!r)) :=
  td_pt (pt_not pt_self) fun B σ G H Q en po => h B σ G H _ en fun G' H' st => po G' H' st
theorem ee_not {r : Bool} (h : EE cl X W a Γ (.ok (aBool r))) : EE cl X W (.UnaryOp .Not a pos) Γ (.ok (aBool (!r))) :=
  ee_pe (pe_not pe_self) fun B σ G H Q en po => h B σ G H _ en fun v G' H' st p => ⟨r, p, po _ G' H' st rfl⟩
variable {rest : List Expr}
theorem tdw_and1 {r : R Bool} (h : TD cl X W a Γ r) : TDw cl X W (.BoolOp .And [a] pos) Γ r := fun B σ G H Q en po whole pins s I => (pw_and1 pt_self).run whole pins s σ H Q I (h B σ G H Q en po)
theorem tdw_or1 {r : R Bool} (h : TD cl X W a Γ r) : TDw cl X W (.BoolOp .Or [a] pos) Γ r := fun B σ G H Q en po whole pins s I => (pw_or1 pt_self).run whole pins s σ H Q I (h B σ G H Q en po)
theorem tdw_and {t : Bool} {r : R Bool} (ha : TD cl X W a Γ (.ok t)) (hb : t = true → TDw cl X W (.BoolOp .And (b :: rest) pos) Γ r) : TDw cl X W (.BoolOp .And (a :: b :: rest) pos) Γ (cond t r (.ok false)) := fun B σ G H Q en po whole pins s I =>
  (pw_and pt_self pw_self).run whole pins s σ H Q I (ha B σ G H _ en fun G' H' st => by
    cases t with
    | true => exact hb rfl B σ G' H' Q (en.step st) (po.step st)
    | false => exact po G' H' st)
theorem tdw_or {t : Bool} {r : R Bool} (ha : TD cl X W a Γ (.ok t)) (hb : t = false → TDw cl X W (.BoolOp .Or (b :: rest) pos) Γ r) : TDw cl X W (.BoolOp .Or (a :: b :: rest) pos) Γ (cond t (.ok true) r) := fun B σ G H Q en po whole pins s I =>
  (pw_or pt_self pw_self).run whole pins s σ H Q I (ha B σ G H _ en fun G' H' st => by
    cases t with
    | true => exact po G' H' st
    | false => exact hb rfl B σ G' H' Q (en.step st) (po.step st))
theorem td_w {r : R Bool} (h : TDw cl X W a Γ r) : TD cl X W a Γ r := fun B σ G H Q en po pins s I => h B σ G H Q en po _ pins s I
theorem ee_one {op} {r : R A} (h : EE cl X W a Γ r) : EE cl X W (.BoolOp op [a] pos) Γ r := ee_pe (pe_one pe_self) h
theorem ee_and {t : Bool} {r : R A} (ha : EE cl X W a Γ (.ok (aBool t))) (hb : t = true → EE cl X W (.BoolOp .And (b :: rest) pos) Γ r) : EE cl X W (.BoolOp .And (a :: b :: rest) pos) Γ (cond t r (.ok (aBool false))) :=
  ee_pe (pe_and pe_self pe_self) fun B σ G H Q en po => ha B σ G H _ en fun v G' H' st p => ⟨t, p, by
    cases t with
    | true => exact hb rfl B σ G' H' Q (en.step st) (po.step st)
    | false => exact po _ G' H' st rfl⟩
theorem ee_or {t : Bool} {r : R A} (ha : EE cl X W a Γ (.ok (aBool t))) (hb : t = false → EE cl X W (.BoolOp .Or (b :: rest) pos) Γ r) : EE cl X W (.BoolOp .Or (a :: b :: rest) pos) Γ (cond t (.ok (aBool true)) r) :=
  ee_pe (pe_or pe_self pe_self) fun B σ G H Q en po => ha B σ G H _ en fun v G' H' st p => ⟨t, p, by
    cases t with
    | true => exact po _ G' H' st rfl
    | false => exact hb rfl B σ G' H' Q (en.step st) (po.step st)⟩
theorem ee_ifExp {t : Bool} {r r' : R A} (hc : TD cl X W c Γ (.ok t)) (ha : t = true → EE cl X W a Γ r) (hb : t = false → EE cl X W b Γ r') : EE cl X W (.IfExp c a b pos) Γ (cond t r r') :=
  ee_pe (pe_ifExp pt_self pe_self pe_self) fun B σ G H Q en po => hc B σ G H _ en fun G' H' st => by
    cases t with
    | true => exact ha rfl B σ G' H' Q (en.step st) (po.step st)
    | false => exact hb rfl B σ G' H' Q (en.step st) (po.step st)

/-! ### displays -/
variable {es : List Expr} {as : List A}
theorem ea_nil : EA cl X W [] Γ [] := ea_pa pa_nil fun B σ G H Q en po => po [] G H (.refl en.gh) .nil
theorem ea_cons (h : EE cl X W a Γ (.ok a1)) (hr : EA cl X W es Γ as) (hs : starEach (a :: es) X.env = (false, eval a X.env) :: starEach es X.env := by rfl) : EA cl X W (a :: es) Γ (a1 :: as) :=
  ea_pa (pa_cons pe_self pa_self hs) fun B σ G H Q en po => h B σ G H _ en fun v G' H' st p => hr B σ G' H' _ (en.step st) fun vs G2 H2 s2 ps => po _ G2 H2 (st.trans s2) (.cons (a1.mono s2.gg p) ps)
/-- what gives a value without an error, whatever the wish -/
theorem ee_any {W' : WX} {cl' : Er → Addr} (h : EE cl X W a Γ (.ok a1)) : EE cl' X W' a Γ (.ok a1) := h
theorem are_len {G : Hp} : ∀ {as : List A} {vs : List V}, Are G as vs → vs.length = as.length
  | _, _, .nil => rfl
  | _, _, .cons _ t => by rw [List.length_cons, List.length_cons, are_len t]
theorem small_line {n : Nat} (h : n ≤ 16777216) : n ≤ sizeLine := by rw [sizeLine_eq]; exact h
theorem small_lt {n : Nat} (h : n < 16777216) : n < sizeLine := by rw [sizeLine_eq]; exact h
theorem ee_tup {x1} (h : EA cl X W es Γ as) (hl : as.length ≤ 16777216 := by exact Nat.le_of_ble_eq_true rfl) : EE cl X W (.Tuple es x1 pos) Γ (.ok (aTup as)) :=
  ee_pe (pe_tup pa_self) fun B σ G H Q en po => h B σ G H _ en fun vs G' H' st p => ⟨by rw [are_len p]; exact small_line hl, fun q hq => po _ _ _ (st.trans (.new st.gh hq)) ⟨q, vs, rfl, upd_same, p.mono (.ins (st.gh.fre hq))⟩⟩
theorem ee_lst (h : EA cl X W es Γ as) (hl : as.length ≤ 16777216 := by exact Nat.le_of_ble_eq_true rfl) : EE cl X W (.List es pos) Γ (.ok (aLst as)) :=
  ee_pe (pe_lst pa_self) fun B σ G H Q en po => h B σ G H _ en fun vs G' H' st p => ⟨by rw [are_len p]; exact small_line hl, fun q hq => po _ _ _ (st.trans (.new st.gh hq)) ⟨q, vs, rfl, upd_same, p.mono (.ins (st.gh.fre hq))⟩⟩

/-! ### subscripts, slices -/
theorem are_get {G : Hp} : ∀ {as : List A} {vs : List V} {i : Nat} {x : A}, Are G as vs → as[i]? = some x → ∃ v, vs[i]? = some v ∧ x.P G v
  | _, _, _, _, .nil, e => by simp at e
  | _, _, 0, _, .cons h _, e => by simp at e; subst e; exact ⟨_, rfl, h⟩
  | _, _, i + 1, x, .cons _ t, e => by
    obtain ⟨v, h1, h2⟩ := are_get (i := i) (x := x) t (by simpa using e)
    exact ⟨v, by simpa using h1, h2⟩
theorem are_at {G : Hp} {as : List A} {vs : List V} {i : Int} {x : A} (r : Are G as vs) (h : atI as i = some x) : ∃ v, atI vs i = some v ∧ x.P G v := by
  unfold atI at h ⊢
  rw [are_len r]
  cases e : ixN as.length i with
  | none => rw [e] at h; cases h
  | some j => rw [e] at h; exact are_get r h
theorem opA_ixL {K : PySem.W.Frag} {xs : List A} {i : Int} {x : A} (h : atI xs i = some x) : OpA (rIxL K) (aLst xs) (aInt i) x := fun G H u v Q sb ⟨p, vs, e, g, r⟩ hy po => by
  obtain ⟨w, h1, h2⟩ := are_at r h
  exact ⟨p, vs, i, w, e, hy, SqL.of (sb _ _ g), h1, po w G H (.refl sb) h2⟩
theorem opA_ixT {K : PySem.W.Frag} {xs : List A} {i : Int} {x : A} (h : atI xs i = some x) : OpA (rIxT K) (aTup xs) (aInt i) x := fun G H u v Q sb ⟨p, vs, e, g, r⟩ hy po => by
  obtain ⟨w, h1, h2⟩ := are_at r h
  exact ⟨p, vs, i, w, e, hy, SqT.of (sb _ _ g), h1, po w G H (.refl sb) h2⟩
theorem atI_map {α β : Type} {f : α → β} {xs : List α} {i : Int} {x : α} (h : atI xs i = some x) : atI (xs.map f) i = some (f x) := by
  unfold atI at h ⊢
  rw [List.length_map]
  cases e : ixN xs.length i with
  | none => rw [e] at h; cases h
  | some j => rw [e] at h; show (xs.map f)[j]? = _; rw [List.getElem?_map]; rw [show xs[j]? = some x from h]; rfl
theorem opA_ixScr {K : PySem.W.Frag} {ns : List Int} {i : Int} {x : Int} (h : atI ns i = some x) : OpA (rIxL K) (aScr K ns) (aInt i) (aInt x) := fun G H u v Q sb hx hy po => by
  obtain ⟨p, e, g⟩ := (aScr K ns).mono sb hx
  exact ⟨p, _, i, _, e, hy, g, atI_map h, po _ G H (.refl sb) rfl⟩
theorem ee_ix {r : R2} (hr : IxR X r) (ha : EE cl X W a Γ (.ok a1)) (hb : EE cl X W b Γ (.ok a2)) (ho : OpA r a1 a2 a3) (hs : PlainIx b := by intro _ _; rfl) : EE cl X W (.Subscript a b pos) Γ (.ok a3) :=
  ee_pe (pe_ix hr pe_self pe_self hs) (ee_tOp ha hb ho)
section
variable {xs : List A} {i : Int} {x : A}
theorem ee_ixL (ha : EE cl X W a Γ (.ok (aLst xs))) (hb : EE cl X W b Γ (.ok (aInt i))) (h : atI xs i = some x) (hs : PlainIx b := by intro _ _; rfl) : EE cl X W (.Subscript a b pos) Γ (.ok x) := ee_ix ix_list ha hb (opA_ixL h) hs
theorem ee_ixT (ha : EE cl X W a Γ (.ok (aTup xs))) (hb : EE cl X W b Γ (.ok (aInt i))) (h : atI xs i = some x) (hs : PlainIx b := by intro _ _; rfl) : EE cl X W (.Subscript a b pos) Γ (.ok x) := ee_ix ix_tup ha hb (opA_ixT h) hs
theorem ee_ixScr {ns : List Int} {z : Int} (ha : EE cl X W a Γ (.ok (aScr X.K ns))) (hb : EE cl X W b Γ (.ok (aInt i))) (h : atI ns i = some z) (hs : PlainIx b := by intro _ _; rfl) : EE cl X W (.Subscript a b pos) Γ (.ok (aInt z)) := ee_ix ix_list ha hb (opA_ixScr h) hs
end
/-- an item of an own list -/
theorem ee_ixOw (F : Fb X N sc) (s : Nat) {x : Str} {o : Option Addr} {xs : List A} {i : Int} {y : A} (hΓ : Γ[s]? = some (.ow o (cLst xs))) (hb : EE cl X W b Γ (.ok (aInt i))) (h : atI xs i = some y) (hN : N[s]? = some x := by rfl)
    (hv : Vis sc x := by first | exact Or.inl rfl | exact Or.inr (Or.inl rfl) | exact Or.inr (Or.inr rfl)) (hd : (x == ("__debug__" : Str)) = false := by decide) (hcd : (x == ("__classdict__" : Str)) = false := by decide) {q : Pos} (hs : PlainIx b := by intro _ _; rfl) :
    EE cl X W (.Subscript (.Name x q) b pos) Γ (.ok y) :=
  ee_pe (pe_ix ix_list (pe_var (i := s) (by rw [F.nN]; exact hN) (F.vis x hv) hd hcd) pe_self hs) fun B σ G H Q en po => by
    obtain ⟨p, o, e, h1, h2, h3, h4⟩ := en.ow s _ _ hΓ
    refine ⟨_, e, hb B σ G H _ en fun v G' H' st pv => ?_⟩
    obtain ⟨vs, eo, r⟩ := h2
    obtain ⟨w, k1, k2⟩ := are_at (r.mono st.gg) h
    exact ⟨p, vs, i, w, rfl, pv, SqL.of (st.hh _ _ (by rw [← eo]; exact h1)), k1, po w G' H' st k2⟩
/-- the parts of a slice -/
def EO (cl : Er → Addr) (X : Cx) (W : WX) (e : Option Expr) (Γ : List Sl) (o : Option Int) : Prop := ∃ t : TO, PO X e t ∧ ∀ B σ G H Q, EnvOk B G H σ Γ → (∀ G' H', Step G H G' H' → Q o H') → t σ H Q
theorem eo_none : EO cl X W none Γ none := ⟨_, po_none, fun B σ G H Q en po => po G H (.refl en.gh)⟩
theorem eo_some {i : Int} (h : EE cl X W a Γ (.ok (aInt i))) : EO cl X W (some a) Γ (some i) := ⟨_, po_some pe_self, fun B σ G H Q en po => h B σ G H _ en fun v G' H' st p => ⟨i, p, po G' H' st⟩⟩
def cutL {α : Type} (xs : List α) (lo hi : Option Int) : List α := (xs.drop (HT.sIx xs.length 0 lo)).take (HT.sIx xs.length xs.length hi - HT.sIx xs.length 0 lo)
theorem cutL_map {α β : Type} (f : α → β) (xs : List α) (lo hi : Option Int) : cutL (xs.map f) lo hi = (cutL xs lo hi).map f := by unfold cutL; rw [List.length_map, List.map_take, List.map_drop]
theorem are_cut {G : Hp} {as : List A} {vs : List V} (r : Are G as vs) (lo hi : Option Int) : Are G (cutL as lo hi) (cutV vs lo hi) := by
  have td : ∀ (n : Nat) {as : List A} {vs : List V}, Are G as vs → Are G (as.drop n) (vs.drop n) := by
    intro n; induction n with
    | zero => intro as vs r; exact r
    | succ n ih => intro as vs r; cases r with
      | nil => exact .nil
      | cons _ t => exact ih t
  have tt : ∀ (n : Nat) {as : List A} {vs : List V}, Are G as vs → Are G (as.take n) (vs.take n) := by
    intro n; induction n with
    | zero => intro as vs r; exact .nil
    | succ n ih => intro as vs r; cases r with
      | nil => exact .nil
      | cons h t => exact .cons h (ih t)
  unfold cutL cutV
  rw [are_len r]
  exact tt _ (td _ r)
section
variable {lo hi : Option Expr} {l u : Option Int} {p2 : Pos}
theorem ee_slL {xs : List A} (ha : EE cl X W a Γ (.ok (aLst xs))) (hl : EO cl X W lo Γ l) (hh : EO cl X W hi Γ u) : EE cl X W (.Subscript a (.Slice lo hi none p2) pos) Γ (.ok (aLst (cutL xs l u))) := by
  obtain ⟨tl, pl, el⟩ := hl
  obtain ⟨th, ph, eh⟩ := hh
  refine ee_pe (pe_slice sl_list pe_self pl ph) fun B σ G H Q en po => ha B σ G H _ en fun v G1 H1 s1 p1 => el B σ G1 H1 _ (en.step s1) fun G2 H2 s2 => eh B σ G2 H2 _ (en.step (s1.trans s2)) fun G3 H3 s3 => ?_
  obtain ⟨p, vs, e, g, r⟩ := p1
  refine ⟨p, vs, e, SqL.of (s3.hh _ _ (s2.hh _ _ (s1.gh _ _ g))), fun q hq => po _ _ _ (((s1.trans s2).trans s3).trans (.new s3.gh hq)) ⟨q, _, rfl, upd_same, are_cut (r.mono ((s2.gg.trans s3.gg).trans (.ins (s3.gh.fre hq)))) l u⟩⟩
theorem ee_slScr {ns : List Int} (ha : EE cl X W a Γ (.ok (aScr X.K ns))) (hl : EO cl X W lo Γ l) (hh : EO cl X W hi Γ u) : EE cl X W (.Subscript a (.Slice lo hi none p2) pos) Γ (.ok (aLst ((cutL ns l u).map aInt))) := by
  obtain ⟨tl, pl, el⟩ := hl
  obtain ⟨th, ph, eh⟩ := hh
  refine ee_pe (pe_slice sl_list pe_self pl ph) fun B σ G H Q en po => ha B σ G H _ en fun v G1 H1 s1 p1 => el B σ G1 H1 _ (en.step s1) fun G2 H2 s2 => eh B σ G2 H2 _ (en.step (s1.trans s2)) fun G3 H3 s3 => ?_
  obtain ⟨p, e, g⟩ := (aScr X.K ns).mono ((s1.gh.trans s2.hh).trans s3.hh) p1
  have intsA : ∀ (J : Hp) (ms : List Int), Are J (ms.map aInt) (ms.map V.int) := fun J ms => by
    induction ms with
    | nil => exact .nil
    | cons m ms ih => exact .cons rfl ih
  refine ⟨p, _, e, g, fun q hq => po _ _ _ (((s1.trans s2).trans s3).trans (.new s3.gh hq)) ⟨q, _, rfl, upd_same, ?_⟩⟩
  have z := are_cut (intsA (upd G3 q (.lst (cutV (ns.map V.int) l u))) ns) l u
  rw [cutL_map] at z
  exact z
theorem ee_slT5 {xs : List A} {n : Nat} (ha : EE cl X W a Γ (.ok (aTup xs))) (hl : EO cl X W lo Γ l) (hh : EO cl X W hi Γ u) (hn : (cutL xs l u).length ≠ xs.length) (hq : ∀ (K : PySem.W.Frag) (vs : List V) (p : Addr) (H : Hp) (Q : VK), vs.length = xs.length → SqT K H p vs → (∀ q, H q = none → Q (.ref q) (upd H q (.tup (cutV vs l u)))) → rSlT K (.ref p) l u H Q) :
    EE cl X W (.Subscript a (.Slice lo hi none p2) pos) Γ (.ok (aTup (cutL xs l u))) := by
  obtain ⟨tl, pl, el⟩ := hl
  obtain ⟨th, ph, eh⟩ := hh
  refine ee_pe (pe_slice sl_tup pe_self pl ph) fun B σ G H Q en po => ha B σ G H _ en fun v G1 H1 s1 p1 => el B σ G1 H1 _ (en.step s1) fun G2 H2 s2 => eh B σ G2 H2 _ (en.step (s1.trans s2)) fun G3 H3 s3 => ?_
  obtain ⟨p, vs, e, g, r⟩ := p1
  subst e
  exact hq X.K vs p H3 Q (are_len r) (SqT.of (s3.hh _ _ (s2.hh _ _ (s1.gh _ _ g)))) fun q hq => po _ _ _ (((s1.trans s2).trans s3).trans (.new s3.gh hq)) ⟨q, _, rfl, upd_same, are_cut (r.mono ((s2.gg.trans s3.gg).trans (.ins (s3.gh.fre hq)))) l u⟩
end
/-! ### fields -/
theorem areF_get {G : Hp} {f : Str} : ∀ {as : List (Str × A)} {vs : List (Str × V)} {x : A}, AreF G as vs → as.lookup f = some x → ∃ v, vs.lookup f = some v ∧ x.P G v
  | _, _, _, .nil, e => by simp at e
  | (g, y) :: as, (g', v) :: vs, x, .cons h t, e => by
    obtain ⟨h1, h2⟩ := h
    have h1' : g = g' := h1
    subst h1'
    rw [List.lookup_cons] at e ⊢
    by_cases q : (f == g) = true
    · rw [q] at e ⊢; cases e; exact ⟨v, rfl, h2⟩
    · rw [Bool.not_eq_true] at q; rw [q] at e ⊢; exact areF_get t e
theorem ee_fld {C : Addr} {fs : List (Str × A)} {f : Str} {x : A} (ha : EE cl X W a Γ (.ok (aIns C fs))) (hC : Cls X.K C) (hn : NoAttr X.K C f) (hf : fs.lookup f = some x) (hb : attributeBase a f X.env (eval a X.env) = eval a X.env := by rfl) :
    EE cl X W (.Attribute a f pos) Γ (.ok x) :=
  ee_pe (pe_fld pe_self hb) fun B σ G H Q en po => ha B σ G H _ en fun v G' H' st ⟨p, dx, vs, e, g, r⟩ => by
    obtain ⟨w, h1, h2⟩ := areF_get r hf
    exact ⟨p, C, dx, vs, w, e, st.gh _ _ g, hC, hn, h1, po w G' H' st h2⟩
/-! ### built-in calls -/
/-- what a built-in call on values gives -/
def CallA (r : List V → Hp → VK → Prop) (as : List A) (x : A) : Prop := ∀ (G H : Hp) (vs : List V) (Q : VK), Sub G H → Are G as vs → (∀ v G' H', Step G H G' H' → x.P G' v → Q v H') → r vs H Q
theorem ee_cB {f : Str} {id : String} {r : List V → Hp → VK → Prop} {x : A} {p : Pos} (F : Fb X N sc) (hc : CallR X (.builtin id) r) (hm : X.mg f = none) (ha : EA cl X W (a :: es) Γ as) (hr : CallA r as x) (hv : bootBuiltins f = some (.builtin id) := by decide +kernel)
    (hg : sc.names.lookup f = some .globalImplicit := by rfl) (hn : f ≠ "__name__" := by decide) (hd : (f == ("__debug__" : Str)) = false := by decide) (he : starEach (a :: es) X.env = (false, eval a X.env) :: starEach es X.env := by rfl) (hpl : (backTo pos (starEach es X.env)).any (·.1) = false := by rfl) :
    EE cl X W (.Call (.Name f p) (a :: es) [] pos) Γ (.ok x) :=
  ee_pe (pe_callB hc (F.gl f hg) hm hv pa_self hn hd he hpl) fun B σ G H Q en po => ha B σ G H _ en fun vs G' H' st rs => hr G' H' vs Q st.gh rs fun v G2 H2 s2 p2 => po v G2 H2 (st.trans s2) p2
theorem ee_cT {f : Str} {T : String} {r : List V → Hp → VK → Prop} {x : A} {p : Pos} (F : Fb X N sc) (hc : CallR X (.type T) r) (hm : X.mg f = none) (ha : EA cl X W (a :: es) Γ as) (hr : CallA r as x) (hv : bootBuiltins f = some (.type T) := by decide +kernel)
    (hg : sc.names.lookup f = some .globalImplicit := by rfl) (hn : f ≠ "__name__" := by decide) (hd : (f == ("__debug__" : Str)) = false := by decide) (he : starEach (a :: es) X.env = (false, eval a X.env) :: starEach es X.env := by rfl) (hpl : (backTo pos (starEach es X.env)).any (·.1) = false := by rfl) :
    EE cl X W (.Call (.Name f p) (a :: es) [] pos) Γ (.ok x) :=
  ee_pe (pe_callTy hc (F.gl f hg) hm hv pa_self hn hd he hpl) fun B σ G H Q en po => ha B σ G H _ en fun vs G' H' st rs => hr G' H' vs Q st.gh rs fun v G2 H2 s2 p2 => po v G2 H2 (st.trans s2) p2
end
end SK

set_option Elab.async false
set_option linter.all false
set_option maxRecDepth 100000
set_option maxHeartbeats 2000000
/-! P3: promises, calls, statements. -/
namespace SK
open PySem L2

/-! ### promises -/
def PostF (cl : Er → Addr) (G H : Hp) (Q : VK) (E : XK) : R A → Prop
  | .ok a => ∀ v G' H', Step G H G' H' → a.P G' v → Q v H'
  | .ex e => ∀ d G' H', Step G H G' H' → ErP e d H' → E (.ref (cl e)) d H'
  | .bad => False
/-- data in, data out -/
def spOf (cl : Er → Addr) (n : Nat) (I : List A → R A → Prop) : Sp := fun vs H Q E => ∃ G as r, I as r ∧ as.length = n ∧ Sub G H ∧ Are G as vs ∧ PostF cl G H Q E r
theorem spOf_len {cl : Er → Addr} {n : Nat} {I : List A → R A → Prop} {vs H Q E} (h : spOf cl n I vs H Q E) : vs.length = n := by
  obtain ⟨G, as, r, _, hl, _, ha, _⟩ := h
  rw [are_len ha, hl]
/-- a def of the text that keeps a promise -/
structure Fn (P : Program) (w : World) (K : PySem.W.Frag) (mg : Str → Option Value) (base : Heap) (x : Str) (j : Nat) (ps : List Str) (sp : Sp) : Prop where
  ex : ∃ f fd, mg x = some (.ref f) ∧ PySem.W.keepIn K (.ref f) = true ∧ Binds K fd ps [] ∧ FnOk P w K mg base (L2.CX P w) j f fd ps sp
abbrev FnX (X : Cx) (x : Str) (j : Nat) (ps : List Str) (sp : Sp) : Prop := Fn X.prog X.w X.K X.mg X.base x j ps sp
/-- a method of the class at C -/
structure Me (P : Program) (w : World) (K : PySem.W.Frag) (mg : Str → Option Value) (base : Heap) (C : Addr) (m : Str) (j : Nat) (ps : List Str) (sp : Sp) : Prop where
  cls : Cls K C
  ex : ∃ f fd, Meth K C m f ∧ Binds K fd ps [] ∧ FnOk P w K mg base (L2.CX P w) j f fd ps sp
abbrev MeX (X : Cx) (C : Addr) (m : Str) (j : Nat) (ps : List Str) (sp : Sp) : Prop := Me X.prog X.w X.K X.mg X.base C m j ps sp
/-- a class that is made: its __init__ fills the fields -/
def PostI (cl : Er → Addr) (G H : Hp) (p C : Addr) (Q : VK) (E : XK) : R (List (Str × A)) → Prop
  | .ok fs => ∀ G' H' dx ws, Sub G G' → Sub G' H' → (∀ a o, a ≠ p → H a = some o → H' a = some o ∧ G' a = G a) → G' p = none → H' p = some (.ins C dx ws) → AreF G' fs ws → Q .non H'
  | .ex e => ∀ d G' H', Sub G G' → Sub G' H' → (∀ a o, a ≠ p → H a = some o → H' a = some o ∧ G' a = G a) → ErP e d H' → E (.ref (cl e)) d H'
  | .bad => False
def spIni (cl : Er → Addr) (n : Nat) (C : Addr) (I : List A → R (List (Str × A)) → Prop) : Sp := fun vs H Q E => ∃ G p dx vs' as r, vs = .ref p :: vs' ∧ I as r ∧ as.length = n ∧ Sub G H ∧ H p = some (.ins C dx []) ∧ G p = none ∧ Are G as vs' ∧ PostI cl G H p C Q E r
theorem spIni_len {cl : Er → Addr} {n : Nat} {C : Addr} {I : List A → R (List (Str × A)) → Prop} {vs H Q E} (h : spIni cl n C I vs H Q E) : vs.length = n + 1 := by
  obtain ⟨G, p, dx, vs', as, r, rfl, _, hl, _, _, _, ha, _⟩ := h
  rw [List.length_cons, are_len ha, hl]
structure Ma (P : Program) (w : World) (K : PySem.W.Frag) (mg : Str → Option Value) (base : Heap) (x : Str) (C : Addr) (j : Nat) (ps : List Str) (sp : Sp) : Prop where
  gC : mg x = some (.ref C)
  ex : ∃ f fd, Mk K C f ∧ Binds K fd ps [] ∧ FnOk P w K mg base (L2.CX P w) j f fd ps sp
abbrev MaX (X : Cx) (x : Str) (C : Addr) (j : Nat) (ps : List Str) (sp : Sp) : Prop := Ma X.prog X.w X.K X.mg X.base x C j ps sp

section
variable {cl : Er → Addr} {X : Cx} {W : WX} {N : List Str} {sc : Scope} {k : Nat} {Γ : List Sl} {pos : Pos}

/-! ### calls -/
theorem postF_of {G H : Hp} {σ : L2.St} {Q : VK} {r : R A} (p : PostE cl W G H σ Q r) : PostF cl G H Q (WE W σ) r := by
  cases r with
  | ok a => exact p
  | ex e => exact p
  | bad => exact p
theorem ee_call {x : Str} {j n : Nat} {ps : List Str} {I : List A → R A → Prop} {a : Expr} {es : List Expr} {as : List A} {r : R A} {p : Pos} (F : Fc X W N sc k) (f : FnX X x j ps (spOf cl n I)) (ha : EA cl X W (a :: es) Γ as) (hI : I as r) (hj : j ≤ k := by decide) (hn : as.length = n := by rfl)
    (hg : sc.names.lookup x = some .globalImplicit := by rfl) (hd : (x == ("__debug__" : Str)) = false := by decide) (he : starEach (a :: es) X.env = (false, eval a X.env) :: starEach es X.env := by rfl) (hpl : (backTo pos (starEach es X.env)).any (·.1) = false := by rfl) :
    EE cl X W (.Call (.Name x p) (a :: es) [] pos) Γ r := by
  obtain ⟨fa, fd, hm, hk, hb, ok⟩ := f.ex
  refine ee_pe (pe_callS ok (F.room.mono hj) (F.b.gl x hg) hm hk hb (fun σ => passAt F.tk σ) pa_self hd he hpl) fun B σ G H Q en po => ha B σ G H _ en fun vs G' H' st rs => ?_
  exact ⟨G', as, r, hI, hn, st.gh, rs, postF_of (po.step st)⟩
/-- o.m(..): what is raised is wished for at the slots -/
theorem pe_methW {CX : CXT} {f C : Addr} {fd : FuncData} {ps : List Str} {sp : Sp} {E : L2.St → XK} {m : Str} {apos : Pos} {o e : Expr} {es : List Expr} {ta : TE} {t : TA} {pl : Sem Bool} (he : PE X o ta) (c : Cls X.K C) (hm : Meth X.K C m f) (F : FnOk X.prog X.w X.K X.mg X.base CX k f fd ps sp) (hr : Room k X.A) (hb : Binds X.K fd ps []) (hx : ∀ σ, PassesAt CX X σ (E σ)) (ha : PA X (e :: es) t)
    (hst : starEach (e :: es) X.env = (false, eval e X.env) :: starEach es X.env := by rfl) (hpl : (backTo pos (starEach es X.env)).any (·.1) = false := by rfl)
    (ht : eval (.Call (.Attribute o m apos) (e :: es) [] pos) X.env = (do
      let ov ← eval o X.env
      standAt apos.atName
      let (f, first) ← holding [ov] (getMethod ov m pl)
      callWith pos f first (backTo pos (starEach (e :: es) X.env)) (backToKw pos (keywordEach [] X.env))) := by rfl) :
    PE X (.Call (.Attribute o m apos) (e :: es) [] pos) (fun σ H Q => ta σ H fun x H1 => ∃ a dx fs, x = .ref a ∧ H1 a = some (.ins C dx fs) ∧ fs.lookup m = none ∧ t σ H1 fun vs H2 => sp (x :: vs) H2 Q (E σ)) := by
  refine ⟨fun pins s σ H Q I h => ?_⟩
  refine PySem.W.methodCall_KW (pl := pl) (thn (he.run pins s σ H _ I h) fun u s1 ⟨x, H1, I1, rx, a, dx, fs, ex, ea, l, q⟩ => ?_) ht
  subst ex
  obtain rfl : u = Value.ref a := rx
  refine getmeth_ok I1 ea c hm l ?_
  refine PySem.W.callWith_K (first := [.ref a]) (h₀ := X.base) I.ok.mod.kin hm.kp (thn (ha.run pos pins s1 σ H1 _ I1 q) fun us s2 ⟨vs, H2, I2, r, q2⟩ => ⟨I2.kIn, ?_⟩) hst hpl
  exact run_fnS (us := .ref a :: us) (vs := .ref a :: vs) F hr hb (hx σ) I2 (.cons rfl r) q2
theorem pe_methW0 {CX : CXT} {f C : Addr} {fd : FuncData} {ps : List Str} {sp : Sp} {E : L2.St → XK} {m : Str} {apos : Pos} {o : Expr} {ta : TE} {pl : Sem Bool} (he : PE X o ta) (c : Cls X.K C) (hm : Meth X.K C m f) (F : FnOk X.prog X.w X.K X.mg X.base CX k f fd ps sp) (hr : Room k X.A) (hb : Binds X.K fd ps []) (hx : ∀ σ, PassesAt CX X σ (E σ))
    (ht : eval (.Call (.Attribute o m apos) [] [] pos) X.env = (do
      let ov ← eval o X.env
      standAt apos.atName
      let (f, first) ← holding [ov] (getMethod ov m pl)
      callWith pos f first (backTo pos (starEach [] X.env)) (backToKw pos (keywordEach [] X.env))) := by rfl) :
    PE X (.Call (.Attribute o m apos) [] [] pos) (fun σ H Q => ta σ H fun x H1 => ∃ a dx fs, x = .ref a ∧ H1 a = some (.ins C dx fs) ∧ fs.lookup m = none ∧ sp [x] H1 Q (E σ)) := by
  refine ⟨fun pins s σ H Q I h => ?_⟩
  refine PySem.W.methodCall_KW (pl := pl) (thn (he.run pins s σ H _ I h) fun u s1 ⟨x, H1, I1, rx, a, dx, fs, ex, ea, l, q⟩ => ?_) ht
  subst ex
  obtain rfl : u = Value.ref a := rx
  refine getmeth_ok I1 ea c hm l ?_
  exact PySem.W.callWith_K0 (first := [.ref a]) I1.kIn hm.kp (run_fnS (us := [.ref a]) (vs := [.ref a]) F hr hb (hx σ) I1 (.cons rfl .nil) q)
theorem areF_none {G : Hp} {f : Str} : ∀ {as : List (Str × A)} {vs : List (Str × V)}, AreF G as vs → as.lookup f = none → vs.lookup f = none
  | _, _, .nil, _ => rfl
  | (g, y) :: as, (g', v) :: vs, .cons h t, e => by
    obtain ⟨h1, h2⟩ := h
    have h1' : g = g' := h1
    subst h1'
    rw [List.lookup_cons] at e ⊢
    by_cases q : (f == g) = true
    · rw [q] at e; cases e
    · rw [Bool.not_eq_true] at q; rw [q] at e ⊢; exact areF_none t e
theorem ee_meth {C : Addr} {m : Str} {j n : Nat} {ps : List Str} {I : List A → R A → Prop} {o a : Expr} {es : List Expr} {as : List A} {fs : List (Str × A)} {r : R A} {apos : Pos} (F : Fc X W N sc k) (f : MeX X C m j ps (spOf cl n I)) (ho : EE cl X W o Γ (.ok (aIns C fs))) (ha : EA cl X W (a :: es) Γ as) (hI : I (aIns C fs :: as) r) (hl : fs.lookup m = none) (hj : j ≤ k := by decide) (hn : as.length + 1 = n := by rfl) {pl : Sem Bool}
    (hst : starEach (a :: es) X.env = (false, eval a X.env) :: starEach es X.env := by rfl) (hpl : (backTo pos (starEach es X.env)).any (·.1) = false := by rfl)
    (ht : eval (.Call (.Attribute o m apos) (a :: es) [] pos) X.env = (do
      let ov ← eval o X.env
      standAt apos.atName
      let (f, first) ← holding [ov] (getMethod ov m pl)
      callWith pos f first (backTo pos (starEach (a :: es) X.env)) (backToKw pos (keywordEach [] X.env))) := by rfl) :
    EE cl X W (.Call (.Attribute o m apos) (a :: es) [] pos) Γ r := by
  obtain ⟨fa, fd, hm, hb, ok⟩ := f.ex
  refine ee_pe (pe_methW pe_self f.cls hm ok (F.room.mono hj) hb (fun σ => passAt F.tk σ) pa_self hst hpl ht) fun B σ G H Q en po => ho B σ G H _ en fun v G1 H1 s1 p1 => ?_
  obtain ⟨p, dx, vs, e, g, af⟩ := id p1
  refine ⟨p, dx, vs, e, s1.gh _ _ g, areF_none af hl, ha B σ G1 H1 _ (en.step s1) fun ws G2 H2 s2 rs => ?_⟩
  exact ⟨G2, aIns C fs :: as, r, hI, hn, s2.gh, .cons ((aIns C fs).mono s2.gg p1) rs, postF_of (po.step (s1.trans s2))⟩
theorem ee_meth0 {C : Addr} {m : Str} {j : Nat} {ps : List Str} {I : List A → R A → Prop} {o : Expr} {fs : List (Str × A)} {r : R A} {apos : Pos} (F : Fc X W N sc k) (f : MeX X C m j ps (spOf cl 1 I)) (ho : EE cl X W o Γ (.ok (aIns C fs))) (hI : I [aIns C fs] r) (hl : fs.lookup m = none) (hj : j ≤ k := by decide) {pl : Sem Bool}
    (ht : eval (.Call (.Attribute o m apos) [] [] pos) X.env = (do
      let ov ← eval o X.env
      standAt apos.atName
      let (f, first) ← holding [ov] (getMethod ov m pl)
      callWith pos f first (backTo pos (starEach [] X.env)) (backToKw pos (keywordEach [] X.env))) := by rfl) :
    EE cl X W (.Call (.Attribute o m apos) [] [] pos) Γ r := by
  obtain ⟨fa, fd, hm, hb, ok⟩ := f.ex
  refine ee_pe (pe_methW0 pe_self f.cls hm ok (F.room.mono hj) hb (fun σ => passAt F.tk σ) ht) fun B σ G H Q en po => ho B σ G H _ en fun v G1 H1 s1 p1 => ?_
  obtain ⟨p, dx, vs, e, g, af⟩ := id p1
  exact ⟨p, dx, vs, e, s1.gh _ _ g, areF_none af hl, G1, [aIns C fs], r, hI, rfl, s1.gh, .cons p1 .nil, postF_of (po.step s1)⟩
/-- C(..), with the wish at the slots -/
theorem run_makeW {CX : CXT} {f C : Addr} {fd : FuncData} {ps : List Str} {sp : Sp} {E : L2.St → XK} {pins : List (Addr × Obj)} {σ : L2.St} {H : Hp} {s : Shared} {Q : VK} {us : List Value} {vs : List V} (M : Mk X.K C f) (F : FnOk X.prog X.w X.K X.mg X.base CX k f fd ps sp) (hr : Room (k + 1) X.A) (hb : Binds X.K fd ps [])
    (hx : PassesAt CX X σ (E σ)) (I : Inv X pins σ H s) (r : Vals vs us)
    (h : ∀ x dx, H x = none → H dx = none → dx ≠ x → sp (.ref x :: vs) (upd (upd H dx (.own x)) x (.ins C dx [])) (fun v H2 => v = .non ∧ Q (.ref x) H2) (E σ)) :
    wpAny (model X.prog X.w) X.A (call (.ref C) us) (EP X pins σ Q) X.xe s := by
  have J := Inv.made (C := C) I
  have start := h _ _ (I.hok.fresh (Nat.le_succ s.heap.objs.size)) (I.hok.fresh (Nat.le_refl s.heap.objs.size)) (Nat.ne_of_lt (Nat.lt_succ_self _))
  have args : Vals (.ref (s.heap.objs.size + 1) :: vs) (.ref (s.heap.objs.size + 1) :: us) := .cons rfl r
  have bound := List.append_nil (Value.ref (s.heap.objs.size + 1) :: us) ▸ hb _ (.ref (s.heap.objs.size + 1) :: us) J.kIn (by rw [List.append_nil, ← args.length]; exact F.len _ _ _ _ start)
  have run := F.run _ X.stack _ _ _ _ _ _ (E σ) (hr.make C us []) (J.env0.make C us []) bound args start
  refine wpAny_call (make_map I.kIn M.makes M.init (beq_iff_eq.mp M.fn) (codeAny_mono run fun back s' z => ?_))
  match back, z with
  | .error _, z => exact hx _ _ _ _ _ J z
  | .ok (.ret u), z =>
    obtain ⟨_, G, J', none, rfl, q⟩ := J.after z
    exact ⟨none, .ref (s.heap.objs.size + 1), G, J', rfl, q⟩
  | .ok .next, z | .ok .brk, z | .ok .cont, z => exact False.elim z
theorem pe_makeW {CX : CXT} {f C : Addr} {fd : FuncData} {ps : List Str} {sp : Sp} {E : L2.St → XK} {x : Str} {p : Pos} {e : Expr} {es : List Expr} {t : TA} (M : Mk X.K C f) (F : FnOk X.prog X.w X.K X.mg X.base CX k f fd ps sp) (hr : Room (k + 1) X.A) (hg : Gl X x) (hm : X.mg x = some (.ref C)) (hb : Binds X.K fd ps []) (hx : ∀ σ, PassesAt CX X σ (E σ))
    (ha : PA X (e :: es) t) (hdb : (x == ("__debug__" : Str)) = false := by decide) (he : starEach (e :: es) X.env = (false, eval e X.env) :: starEach es X.env := by rfl) (hpl : (backTo pos (starEach es X.env)).any (·.1) = false := by rfl) :
    PE X (.Call (.Name x p) (e :: es) [] pos) (fun σ H Q => t σ H fun vs H1 => ∀ x dx, H1 x = none → H1 dx = none → dx ≠ x → sp (.ref x :: vs) (upd (upd H1 dx (.own x)) x (.ins C dx [])) (fun v H2 => v = .non ∧ Q (.ref x) H2) (E σ)) := by
  refine ⟨fun pins s σ H Q I h => ?_⟩
  refine wpAny_Call_Name_kw (ld_glob I hg hm ?_ hdb)
  refine PySem.W.callWith_K (h₀ := X.base) I.ok.mod.kin M.kp (thn (ha.run pos pins s σ H _ I h) fun us s1 ⟨vs, H1, I1, r, q⟩ => ⟨I1.kIn, ?_⟩) he hpl
  exact run_makeW M F hr hb (hx σ) I1 r q
theorem ee_make {x : Str} {C : Addr} {j n : Nat} {ps : List Str} {I : List A → R (List (Str × A)) → Prop} {a : Expr} {es : List Expr} {as : List A} {r : R (List (Str × A))} {p : Pos} (F : Fc X W N sc k) (f : MaX X x C j ps (spIni cl n C I)) (ha : EA cl X W (a :: es) Γ as) (hI : I as r) (hj : j + 1 ≤ k := by decide) (hn : as.length = n := by rfl)
    (hg : sc.names.lookup x = some .globalImplicit := by rfl) (hd : (x == ("__debug__" : Str)) = false := by decide) (he : starEach (a :: es) X.env = (false, eval a X.env) :: starEach es X.env := by rfl) (hpl : (backTo pos (starEach es X.env)).any (·.1) = false := by rfl) :
    EE cl X W (.Call (.Name x p) (a :: es) [] pos) Γ (r.map (aIns C)) := by
  obtain ⟨fa, fd, hM, hb, ok⟩ := f.ex
  refine ee_pe (pe_makeW hM ok (F.room.mono hj) (F.b.gl x hg) f.gC hb (fun σ => passAt F.tk σ) pa_self hd he hpl) fun B σ G H Q en po => ha B σ G H _ en fun vs G1 H1 s1 rs => fun p dx hp hdx ne => ?_
  have z : PostE cl W G1 H1 σ Q (r.map (aIns C)) := po.step s1
  have old : ∀ b o, H1 b = some o → (upd (upd H1 dx (.own p)) p (.ins C dx [])) b = some o := fun b o q => by
    rw [upd_ne (ne_of_none q hp), upd_ne (ne_of_none q hdx)]; exact q
  have gp : G1 p = none := s1.gh.fre hp
  have back : ∀ {G' H' : Hp}, (∀ b o, b ≠ p → (upd (upd H1 dx (.own p)) p (.ins C dx [])) b = some o → H' b = some o ∧ G' b = G1 b) → Sub H1 H' ∧ ∀ b o, H1 b = some o → G' b = G1 b := fun h =>
    ⟨fun b o q => (h b o (ne_of_none q hp) (old b o q)).1, fun b o q => (h b o (ne_of_none q hp) (old b o q)).2⟩
  refine ⟨G1, p, dx, vs, as, r, rfl, hI, hn, fun b o q => old b o (s1.gh b o q), upd_same, gp, rs, ?_⟩
  cases r with
  | ok fs =>
    intro G' H' dx' ws sg gh fr np hi af
    refine ⟨rfl, z (.ref p) (upd G' p (.ins C dx' ws)) H' ⟨sg.trans (.ins np), (back fr).1, fun b o q => ?_, fun b o q => ?_⟩ ⟨p, dx', ws, rfl, upd_same, af.mono (.ins np)⟩⟩
    · rw [upd_ne (ne_of_none q hp)]; exact (back fr).2 b o q
    · by_cases e : b = p
      · subst e; rw [upd_same] at q; cases q; exact hi
      · rw [upd_ne e] at q; exact gh b o q
  | ex e =>
    intro d G' H' sg gh fr er
    exact z d G' H' ⟨sg, (back fr).1, (back fr).2, gh⟩ er
  | bad => exact z
end

/-! ### statements -/
/-- the rest that follows a block -/
def tK (X : Cx) : List (List Stmt) → Ends → Ends
  | [], D => D
  | r :: rs, D => { tK X rs D with nx := tS X r (tK X rs D) }
theorem tK_rt (X : Cx) : ∀ K D, (tK X K D).rt = D.rt
  | [], _ => rfl
  | _ :: rs, D => tK_rt X rs D
theorem tK_bk (X : Cx) : ∀ K D, (tK X K D).bk = D.bk
  | [], _ => rfl
  | _ :: rs, D => tK_bk X rs D
theorem tK_ct (X : Cx) : ∀ K D, (tK X K D).ct = D.ct
  | [], _ => rfl
  | _ :: rs, D => tK_ct X rs D
/-- the block, then what follows, comes to o -/
def SK (cl : Er → Addr) (X : Cx) (W : WX) (sts : List Stmt) (K : List (List Stmt)) (Γ : List Sl) (o : Out) : Prop := ∀ B D σ G H, EnvOk B G H σ Γ → PostS cl W B D o → tS X sts (tK X K D) σ H
/-- how a result ends a body -/
def cv {T : Type} (φ : T → Out) : R T → Out
  | .ok t => φ t
  | .ex e => .ex e []
  | .bad => .bad
section
variable {cl : Er → Addr} {X : Cx} {W : WX} {N : List Str} {sc : Scope} {k : Nat} {Γ : List Sl} {pos : Pos} {rest : List Stmt} {K : List (List Stmt)} {o : Out} {e : Expr} {a : A}
theorem EnvOk.any {B : Hp × Hp} {G H : Hp} {σ : L2.St} (en : EnvOk B G H σ Γ) : EnvOk B G H σ [] := en.le .nil
theorem EnvOk.lt {B : Hp × Hp} {G H : Hp} {σ : L2.St} {i : Nat} {x : Str} {pins s} (I : Inv X pins σ H s) (F : Fb X N sc) (hN : N[i]? = some x) : i < σ.length := by
  rw [I.len, F.nN]; exact (List.getElem?_eq_some_iff.mp hN).1
theorem sk_bad {sts : List Stmt} : SK cl X W sts K Γ .bad := fun _ _ _ _ _ _ h => False.elim h
theorem sk_need {α T : Type} {φ : T → Out} {sts : List Stmt} {r : R α} {m : α → R T} (h : ∀ v, r = .ok v → SK cl X W sts K Γ (cv φ (m v))) : SK cl X W sts K Γ (cv φ (r.need m)) := by
  cases r with
  | ok v => exact h v rfl
  | ex _ => exact sk_bad
  | bad => exact sk_bad
/-- what is forgotten ahead -/
theorem sk_le {sts : List Stmt} {Γ' : List Sl} (l : Le Γ Γ') (h : SK cl X W sts K Γ' o) : SK cl X W sts K Γ o := fun B D σ G H en po => h B D σ G H (en.le l) po
theorem sk_end {Γ' : List Sl} (l : Le Γ Γ') : SK cl X W [] [] Γ (.nx Γ') := fun B D σ G H en po pins s I => pss_nil.run pins s σ H D I (po σ G H (en.le l))
theorem sk_pop {r : List Stmt} {rs : List (List Stmt)} (h : SK cl X W r rs Γ o) : SK cl X W [] (r :: rs) Γ o := fun B D σ G H en po pins s I => pss_nil.run pins s σ H _ I (h B D σ G H en po)
theorem sk_one {st : Stmt} {t : TS} (h : PS X st t) (ev : ∀ B D σ G H, EnvOk B G H σ Γ → PostS cl W B D o → t { tK X K D with nx := tS X rest (tK X K D) } σ H) : SK cl X W (st :: rest) K Γ o := fun B D σ G H en po pins s I =>
  (pss_cons h pss_self).run pins s σ H _ I (ev B D σ G H en po)
theorem sk_if {c : Expr} {x y : List Stmt} {b : Bool} {T : Type} {φ : T → Out} {m m' : R T} (hc : TD cl X W c Γ (.ok b)) (hx : b = true → SK cl X W x (rest :: K) Γ (cv φ m)) (hy : b = false → SK cl X W y (rest :: K) Γ (cv φ m')) : SK cl X W (.If c x y pos :: rest) K Γ (cv φ (cond b m m')) :=
  sk_one (ps_if pt_self pss_self pss_self) fun B D σ G H en po => hc B σ G H _ en fun G' H' st => by
    cases b with
    | true => exact hx rfl B D σ G' H' (en.step st) po
    | false => exact hy rfl B D σ G' H' (en.step st) po
/-- a test that may lack what it needs -/
theorem sk_ifR {c : Expr} {x y : List Stmt} {r : R Bool} {T : Type} {φ : T → Out} {m m' : R T} (hc : TD cl X W c Γ r) (hx : r = .ok true → SK cl X W x (rest :: K) Γ (cv φ m)) (hy : r = .ok false → SK cl X W y (rest :: K) Γ (cv φ m')) : SK cl X W (.If c x y pos :: rest) K Γ (cv φ (r.need fun b => cond b m m')) := by
  cases r with
  | ok b => exact sk_if hc (fun q => hx (by rw [q])) (fun q => hy (by rw [q]))
  | ex _ => exact sk_bad
  | bad => exact sk_bad
theorem sk_pass (h : SK cl X W rest K Γ o) : SK cl X W (.Pass pos :: rest) K Γ o := sk_one ps_pass fun B D σ G H en po => h B D σ G H en po
theorem sk_break {Γ' : List Sl} (l : Le Γ Γ') : SK cl X W (.Break pos :: rest) K Γ (.bk Γ') := sk_one ps_break fun B D σ G H en po => by
  show (tK X K D).bk σ H
  rw [tK_bk]; exact po σ G H (en.le l)
theorem sk_continue {Γ' : List Sl} (l : Le Γ Γ') : SK cl X W (.Continue pos :: rest) K Γ (.ct Γ') := sk_one ps_continue fun B D σ G H en po => by
  show (tK X K D).ct σ H
  rw [tK_ct]; exact po σ G H (en.le l)
theorem sk_ret (he : EE cl X W e Γ (.ok a)) : SK cl X W (.Return (some e) pos :: rest) K Γ (.rt a) := sk_one (ps_ret pe_self) fun B D σ G H en po => he B σ G H _ en fun v G' H' st p => by
  show (tK X K D).rt v H'
  rw [tK_rt]; exact po v G' H' (en.step st).base p
theorem sk_retR {α : Type} {f : α → A} {r : R α} (he : EE cl X W e Γ (r.map f)) : SK cl X W (.Return (some e) pos :: rest) K Γ (cv (fun v => .rt (f v)) r) := by
  cases r with
  | ok v => exact sk_ret he
  | ex x => exact sk_one (ps_ret pe_self) fun B D σ G H en po => he B σ G H _ en fun d G' H' st p => po d σ G' H' (en.step st).any p
  | bad => exact sk_bad
theorem sk_retN : SK cl X W (.Return none pos :: rest) K Γ (.rt aNone) := sk_one ps_retN fun B D σ G H en po => by
  show (tK X K D).rt .non H
  rw [tK_rt]; exact po .non G H en.base rfl
/-- a statement that stores e in a slot, the value kept as data -/
theorem set_run (F : Fb X N sc) {i : Nat} {x : Str} {D : Ends} {B : Hp × Hp} {G H : Hp} {σ : L2.St} {v : V} (hi : N[i]? = some x) (en : EnvOk B G H σ Γ) (p : a.P G v) (h : ∀ σ', EnvOk B G H σ' (Γ.set i (.im a)) → D.nx σ' H) (hl : i < σ.length) : gName i v σ H D.nx :=
  h _ (en.set hl p)
theorem sk_set (F : Fb X N sc) (i : Nat) {x : Str} {pos' : Pos} (he : EE cl X W e Γ (.ok a)) (h : SK cl X W rest K (Γ.set i (.im a)) o) (hN : N[i]? = some x := by rfl) (hv : Loc sc x := by first | exact Or.inl rfl | exact Or.inr rfl) (hs : swapsWith e (some (.Name x pos')) pos.line X.env = pure false := by rfl) :
    SK cl X W (.Assign [.Name x pos'] e pos :: rest) K Γ o := fun B D σ G H en po pins s I =>
  (pss_cons (ps_set (by rw [F.nN]; exact F.nd) (by rw [F.nN]; exact hN) (F.sto x hv).1 pe_self hs (F.sto x hv).2) pss_self).run pins s σ H _ I (he B σ G H _ en fun v G' H' st p => h B D _ G' H' ((en.step st).set (EnvOk.lt (B := B) (G := G) I F hN) p) po)
theorem sk_setR {α T : Type} {φ : T → Out} {f : α → A} {r : R α} {m : α → R T} (F : Fb X N sc) (i : Nat) {x : Str} {pos' : Pos} (he : EE cl X W e Γ (r.map f)) (h : ∀ v, r = .ok v → SK cl X W rest K (Γ.set i (.im (f v))) (cv φ (m v))) (hN : N[i]? = some x := by rfl) (hv : Loc sc x := by first | exact Or.inl rfl | exact Or.inr rfl) (hs : swapsWith e (some (.Name x pos')) pos.line X.env = pure false := by rfl) :
    SK cl X W (.Assign [.Name x pos'] e pos :: rest) K Γ (cv φ (r.bind m)) := by
  cases r with
  | ok v => exact sk_set F i he (h v rfl) hN hv hs
  | ex y => exact sk_one (ps_set (by rw [F.nN]; exact F.nd) (by rw [F.nN]; exact hN) (F.sto x hv).1 pe_self hs (F.sto x hv).2) fun B D σ G H en po => he B σ G H _ en fun d G' H' st p => po d σ G' H' (en.step st).any p
  | bad => exact sk_bad
theorem sk_expr (he : EE cl X W e Γ (.ok a)) (h : SK cl X W rest K Γ o) (hs : swapsWith e none pos.line X.env = pure false := by rfl) : SK cl X W (.Expr e pos :: rest) K Γ o :=
  sk_one (ps_expr pe_self hs) fun B D σ G H en po => he B σ G H _ en fun v G' H' st p => h B D σ G' H' (en.step st) po
theorem sk_exprR {α T : Type} {φ : T → Out} {f : α → A} {r : R α} {m : α → R T} (he : EE cl X W e Γ (r.map f)) (h : ∀ v, r = .ok v → SK cl X W rest K Γ (cv φ (m v))) (hs : swapsWith e none pos.line X.env = pure false := by rfl) : SK cl X W (.Expr e pos :: rest) K Γ (cv φ (r.bind m)) := by
  cases r with
  | ok v => exact sk_expr he (h v rfl) hs
  | ex y => exact sk_one (ps_expr pe_self hs) fun B D σ G H en po => he B σ G H _ en fun d G' H' st p => po d σ G' H' (en.step st).any p
  | bad => exact sk_bad
theorem sk_doc {x j pos'} (h : SK cl X W rest K Γ o) : SK cl X W (.Expr (.Constant (.str x) j pos) pos' :: rest) K Γ o := sk_one ps_doc fun B D σ G H en po => h B D σ G H en po
/-- x = [..], a list that will grow -/
theorem sk_newL (F : Fb X N sc) (i : Nat) {x : Str} {pos' p2 : Pos} {es : List Expr} {as : List A} (he : EA cl X W es Γ as) (h : SK cl X W rest K (Γ.set i (.ow none (cLst as))) o) (hN : N[i]? = some x := by rfl) (hv : Loc sc x := by first | exact Or.inl rfl | exact Or.inr rfl) (hl : as.length ≤ 16777216 := by exact Nat.le_of_ble_eq_true rfl) (hs : swapsWith (.List es p2) (some (.Name x pos')) pos.line X.env = pure false := by rfl) :
    SK cl X W (.Assign [.Name x pos'] (.List es p2) pos :: rest) K Γ o := fun B D σ G H en po pins s I =>
  (pss_cons (ps_set (by rw [F.nN]; exact F.nd) (by rw [F.nN]; exact hN) (F.sto x hv).1 (pe_lst pa_self) hs (F.sto x hv).2) pss_self).run pins s σ H _ I (he B σ G H _ en fun vs G' H' st p => ⟨by rw [are_len p]; exact small_line hl, fun q hq => h B D _ G' _ ((en.step st).setOw (EnvOk.lt (B := B) (G := G) I F hN) hq ⟨vs, rfl, p⟩) po⟩)
/-- from here on it stays as it is -/
theorem sk_frz {sts : List Stmt} (i : Nat) {c : Cl} {m : Option Addr} (hi : Γ[i]? = some (.ow m c)) (f : Frz c a) (h : SK cl X W sts K (Γ.set i (.im a)) o) : SK cl X W sts K Γ o := fun B D σ G H en po => by
  obtain ⟨G', _, en'⟩ := en.frz hi f
  exact h B D σ G' H en' po
/-- x.append(e) -/
theorem sk_app (F : Fb X N sc) (i : Nat) {x : Str} {xs : List A} {m : Option Addr} {p1 p2 : Pos} {pl : Pos} (hi : Γ[i]? = some (.ow m (cLst xs))) (he : EE cl X W e Γ (.ok a)) (hl : xs.length < 16777216) (h : SK cl X W rest K (Γ.set i (.ow m (cLst (xs ++ [a])))) o) (hN : N[i]? = some x := by rfl)
    (hv : Vis sc x := by first | exact Or.inl rfl | exact Or.inr (Or.inl rfl) | exact Or.inr (Or.inr rfl)) (hd : (x == ("__debug__" : Str)) = false := by decide) (hcd : (x == ("__classdict__" : Str)) = false := by decide) (hst : starEach [e] X.env = (false, eval e X.env) :: starEach [] X.env := by rfl)
    (hps : ∀ {to : TE} {t : TA}, PE X (.Name x p1) to → PA X [e] t → PS X (.Expr (.Call (.Attribute (.Name x p1) "append" p2) [e] [] pl) pos) (tDrop (tBM X.K "list" rAppend to t)) := by intro to t h1 h2; exact ps_expr (pe_bm PySem.F.plainAttrs_list PySem.F.slot_list_append PySem.F.type_list_append mt_append h1 h2)) :
    SK cl X W (.Expr (.Call (.Attribute (.Name x p1) "append" p2) [e] [] pl) pos :: rest) K Γ o :=
  sk_one (hps (pe_var (i := i) (by rw [F.nN]; exact hN) (F.vis x hv) hd hcd) pa_self) fun B D σ G H en po => by
    obtain ⟨p, ob, es, h1, h2, h3, h4, h5⟩ := en.ow i _ _ hi
    obtain ⟨vs, rfl, r⟩ := h2
    refine ⟨_, es, .inl ⟨rfl, _, SqL.of h1⟩, ?_⟩
    refine (ea_cons (hs := hst) he (ea_nil (cl := cl) (W := W))) B σ G H _ en fun us G' H' st pu => ?_
    cases pu with
    | cons pv pn =>
      cases pn
      refine ⟨p, vs, _, rfl, rfl, st.hh _ _ h1, by rw [are_len r]; exact small_lt hl, ?_⟩
      exact h B D σ G' _ ((en.step st).chg hi es ⟨_, rfl, Paired.snoc (r.mono st.gg) pv⟩) po
/-- self.f = e in an __init__ -/
def putA (f : Str) (x : A) : List (Str × A) → List (Str × A)
  | [] => [(f, x)]
  | (g, y) :: r => if g = f then (g, x) :: r else (g, y) :: putA f x r
theorem areF_put {G : Hp} {f : Str} {x : A} {v : V} (p : x.P G v) : ∀ {as : List (Str × A)} {vs : List (Str × V)}, AreF G as vs → AreF G (putA f x as) (putF f v vs)
  | _, _, .nil => .cons ⟨rfl, p⟩ .nil
  | (g, y) :: as, (g', w) :: vs, .cons h t => by
    obtain ⟨h1, h2⟩ := h
    have h1' : g = g' := h1
    subst h1'
    unfold putA putF
    by_cases q : g = f
    · rw [if_pos q, if_pos q]; exact .cons ⟨rfl, p⟩ t
    · rw [if_neg q, if_neg q]; exact .cons ⟨rfl, h2⟩ (areF_put p t)
theorem areF_len {G : Hp} : ∀ {as : List (Str × A)} {vs : List (Str × V)}, AreF G as vs → vs.length = as.length
  | _, _, .nil => rfl
  | _, _, .cons _ t => by rw [List.length_cons, List.length_cons, areF_len t]
theorem sk_fld (F : Fb X N sc) (i : Nat) {x f : Str} {C : Addr} {fs : List (Str × A)} {m : Option Addr} {p1 p2 : Pos} (hC : Cls X.K C) (hn : NoAttr X.K C f) (hi : Γ[i]? = some (.ow m (cIns C fs))) (he : EE cl X W e Γ (.ok a)) (h : SK cl X W rest K (Γ.set i (.ow m (cIns C (putA f a fs)))) o) (hl : fs.length < 1000 := by decide) (hN : N[i]? = some x := by rfl)
    (hv : Vis sc x := by first | exact Or.inl rfl | exact Or.inr (Or.inl rfl) | exact Or.inr (Or.inr rfl)) (hd : (x == ("__debug__" : Str)) = false := by decide) (hcd : (x == ("__classdict__" : Str)) = false := by decide) (hs : swapsWith e (some (.Attribute (.Name x p1) f p2)) pos.line X.env = pure false := by rfl) :
    SK cl X W (.Assign [.Attribute (.Name x p1) f p2] e pos :: rest) K Γ o :=
  sk_one (ps_fld (pe_var (i := i) (by rw [F.nN]; exact hN) (F.vis x hv) hd hcd) pe_self hs) fun B D σ G H en po => he B σ G H _ en fun v G' H' st p => by
    obtain ⟨q, ob, es, h1, h2, h3, h4, h5⟩ := (en.step st).ow i _ _ hi
    obtain ⟨dx, vs, rfl, r⟩ := h2
    refine ⟨_, es, q, C, dx, vs, rfl, h1, hC, hn, by rw [areF_len r]; exact hl, ?_⟩
    exact h B D σ G' _ ((en.step st).chg hi es ⟨dx, _, rfl, areF_put p r⟩) po
/-- the fields of self while they are filled -/
theorem ee_fldOw (F : Fb X N sc) (i : Nat) {x f : Str} {C : Addr} {fs : List (Str × A)} {m : Option Addr} {p1 : Pos} (hC : Cls X.K C) (hn : NoAttr X.K C f) (hi : Γ[i]? = some (.ow m (cIns C fs))) (hf : fs.lookup f = some a) (hN : N[i]? = some x := by rfl)
    (hv : Vis sc x := by first | exact Or.inl rfl | exact Or.inr (Or.inl rfl) | exact Or.inr (Or.inr rfl)) (hd : (x == ("__debug__" : Str)) = false := by decide) (hcd : (x == ("__classdict__" : Str)) = false := by decide) :
    EE cl X W (.Attribute (.Name x p1) f pos) Γ (.ok a) :=
  ee_pe (pe_fld (pe_var (i := i) (by rw [F.nN]; exact hN) (F.vis x hv) hd hcd) rfl) fun B σ G H Q en po => by
    obtain ⟨q, ob, es, h1, h2, h3, h4, h5⟩ := en.ow i _ _ hi
    obtain ⟨dx, vs, rfl, r⟩ := h2
    obtain ⟨w, k1, k2⟩ := areF_get r hf
    exact ⟨_, es, q, C, dx, vs, w, rfl, h1, hC, hn, k1, po w G H (.refl en.gh) k2⟩
/-- raise C('..') of an error class of the program without an __init__ -/
structure Exn (K : PySem.W.Frag) (mg : Str → Option Value) (x : Str) (C : Addr) : Prop where
  g : mg x = some (.ref C)
  q : PySem.W.excIn K C [.type "ValueError", .type "Exception", .type "BaseException", .type "object"] "ValueError.__new__" = true
  kp : PySem.W.keepIn K (.ref C) = true
  sub : PySem.W.subIn K (.ref C) (.type "BaseException") = some true
  ty : PySem.W.typeIn K (.ref C) = some (.type "type")
theorem sk_raise {x msg : Str} {er : Er} {Γ' : List Sl} {p1 p2 p3 : Pos} {j : Nat} (F : Fc X W N sc k) (T : Exn X.K X.mg x (cl er)) (he : ∀ H, ErP er none H) (l : Le Γ Γ') (hg : sc.names.lookup x = some .globalImplicit := by rfl) (hd : (x == ("__debug__" : Str)) = false := by decide) :
    SK cl X W (.Raise (some (.Call (.Name x p1) [.Constant (.str msg) j p2] [] p3)) none pos :: rest) K Γ (.ex er Γ') :=
  sk_one (ps_raise F.calm F.tk (pmk_own PySem.F.excBase_ValueError T.q T.g T.kp (raises_own T.sub T.ty) (F.b.gl x hg) hd)) fun B D σ G H en po => po none σ G H (en.le l) (he H)
end

/-! ### a def keeps its promise -/
inductive FinO : Out → R A → Prop
  | rt {a : A} : FinO (.rt a) (.ok a)
  | nx {Γ : List Sl} : FinO (.nx Γ) (.ok aNone)
  | ex {e : Er} {Γ : List Sl} : FinO (.ex e Γ) (.ex e)
  | bad {r : R A} : FinO .bad .bad
theorem finO_cv {T : Type} {f : T → A} : ∀ r : R T, FinO (cv (fun t => .rt (f t)) r) (r.map f)
  | .ok _ => .rt
  | .ex _ => .ex
  | .bad => .bad (r := .bad)
theorem finO_cvN {T : Type} {Γ : List Sl} : ∀ r : R T, FinO (cv (fun _ => .nx Γ) r) (r.map fun _ => aNone)
  | .ok _ => .nx
  | .ex _ => .ex
  | .bad => .bad (r := .bad)
def gam (n : Nat) (as : List A) : List Sl := as.map Sl.im ++ List.replicate (n - as.length) Sl.un
theorem gam_get {n : Nat} {as : List A} {i : Nat} {s : Sl} (h : (gam n as)[i]? = some s) : s = .un ∨ ∃ a, as[i]? = some a ∧ s = .im a := by
  unfold gam at h
  by_cases hi : i < as.length
  · rw [List.getElem?_append_left (by simpa using hi), List.getElem?_map] at h
    cases e : as[i]? with
    | none => rw [e] at h; cases h
    | some a => rw [e] at h; cases h; exact .inr ⟨a, rfl, rfl⟩
  · rw [List.getElem?_append_right (by simpa using hi), List.getElem?_replicate] at h
    split at h
    · cases h; exact .inl rfl
    · cases h
theorem start_get {N : List Str} {vs : List V} {i : Nat} {v : V} (h : vs[i]? = some v) : (L2.start N vs)[i]? = some (some v) := by
  unfold L2.start
  have hi : i < vs.length := (List.getElem?_eq_some_iff.mp h).1
  rw [List.getElem?_append_left (by simpa using hi), List.getElem?_map, h]; rfl
theorem envOk_start {G H : Hp} {N : List Str} {as : List A} {vs : List V} (gh : Sub G H) (r : Are G as vs) : EnvOk (G, H) G H (L2.start N vs) (gam N.length as) := by
  refine ⟨.refl _, .refl _, fun _ _ _ => rfl, gh, fun i a h => ?_, fun i q c h => ?_, fun i j u v c d p h1 => ?_⟩
  · rcases gam_get h with z | ⟨b, e, z⟩
    · cases z
    · cases z
      obtain ⟨v, h1, h2⟩ := are_get r e
      exact ⟨v, start_get h1, h2⟩
  · rcases gam_get h with z | ⟨b, e, z⟩ <;> cases z
  · rcases gam_get h1 with z | ⟨b, e, z⟩ <;> cases z
section
variable {cl : Er → Addr} {P : Program} {w : World} {K : PySem.W.Frag} {mg : Str → Option Value} {base : Heap} {x qual : Str} {st : Stmt} {f : Addr} {fd : FuncData} {N ps : List Str} {sc : Scope} {j : Nat}
theorem fc_def {cdv : Value} {A' : Around} {outer : List Env} {s : Shared} {H : Hp} {E : XK} (S : FnScope N ps (defScope st)) (hsc : defScope st = sc) (hr : Room j (A'.deeper (PyProof.Rows.envOfC qual (defScope st) s.heap.objs.size f cdv))) :
    Fc (cxOf (L2.CX P w) P w K mg base N qual (defScope st) f cdv A' outer s H E) (fun cls d _ H' => E cls d H') N sc j := by
  subst hsc
  refine ⟨⟨rfl, S.nd, fun _ h => h, fun _ h => ⟨h, .inl rfl⟩, fun _ h => h⟩, rfl, hr, ?_, takes_of rfl rfl rfl rfl⟩
  exact passes_of rfl
theorem fn_body {I : List A → R A → Prop} {n : Nat} (F : Fun K x qual st f fd) (S : FnScope N ps (defScope st)) (hn : ps.length = n) (hsc : defScope st = sc)
    (hb : ∀ (cdv : Value) (A' : Around) (outer : List Env) (s : Shared) (H : Hp) (E : XK), Fc (cxOf (L2.CX P w) P w K mg base N qual (defScope st) f cdv A' outer s H E) (fun cls d _ H' => E cls d H') N sc j → ∀ as r, I as r → as.length = n →
      ∃ o, FinO o r ∧ SK cl (cxOf (L2.CX P w) P w K mg base N qual (defScope st) f cdv A' outer s H E) (fun cls d _ H' => E cls d H') (defBody st) [] (gam N.length as) o) :
    FnOk P w K mg base (L2.CX P w) (j + 1) f fd ps (spOf cl n I) := by
  refine F.okX S (fun vs H Q E h => by rw [hn]; exact spOf_len h) fun cdv A' outer s H vs Q E hr h => ⟨_, pss_self, ?_⟩
  obtain ⟨G, as, r, hI, hl, gh, ha, po⟩ := h
  obtain ⟨o, fo, sd⟩ := hb cdv A' outer s H E (fc_def S hsc hr) as r hI hl
  refine sd (G, H) _ _ G H (envOk_start gh ha) ?_
  cases fo with
  | rt => exact fun v G' H' st' p => po v G' H' st' p
  | nx => exact fun σ' G' H' en => po .non G' H' en.base rfl
  | ex => exact fun d σ' G' H' en er => po d G' H' en.base er
  | bad => exact po
/-- an __init__ -/
theorem ini_body {I : List A → R (List (Str × A)) → Prop} {n : Nat} {C : Addr} (F : Fun K x qual st f fd) (S : FnScope N ps (defScope st)) (hn : ps.length = n + 1) (hsc : defScope st = sc)
    (hb : ∀ (cdv : Value) (A' : Around) (outer : List Env) (s : Shared) (H : Hp) (E : XK) (p : Addr), Fc (cxOf (L2.CX P w) P w K mg base N qual (defScope st) f cdv A' outer s H E) (fun cls d _ H' => E cls d H') N sc j → ∀ as r, I as r → as.length = n →
      SK cl (cxOf (L2.CX P w) P w K mg base N qual (defScope st) f cdv A' outer s H E) (fun cls d _ H' => E cls d H') (defBody st) [] (.ow (some p) (cIns C []) :: gam (N.length - 1) as) (cv (fun fs => .nx [.ow (some p) (cIns C fs)]) r)) :
    FnOk P w K mg base (L2.CX P w) (j + 1) f fd ps (spIni cl n C I) := by
  refine F.okX S (fun vs H Q E h => by rw [hn]; exact spIni_len h) fun cdv A' outer s H vs Q E hr h => ⟨_, pss_self, ?_⟩
  obtain ⟨G, p, dx, vs', as, r, rfl, hI, hl, gh, hp, gp, ha, po⟩ := h
  have sd := hb cdv A' outer s H E p (fc_def S hsc hr) as r hI hl
  have en : EnvOk (G, fun a => if a = p then none else H a) G H (L2.start N (.ref p :: vs')) (.ow (some p) (cIns C []) :: gam (N.length - 1) as) := by
    refine ⟨.refl _, fun a o h => ?_, fun a o h => rfl, gh, fun i a h => ?_, fun i q c h => ?_, fun i i' u v c d q h1 h2 _ _ => ?_⟩
    · by_cases e : a = p
      · subst e; simp at h
      · simpa [e] using h
    · cases i with
      | zero => cases h
      | succ i =>
        have h' : (gam (N.length - 1) as)[i]? = some (.im a) := by simpa using h
        rcases gam_get h' with z | ⟨b, e, z⟩
        · cases z
        · cases z
          obtain ⟨v, h1, h2⟩ := are_get ha e
          exact ⟨v, start_get (i := i + 1) (by simpa using h1), h2⟩
    · cases i with
      | zero => cases h; exact ⟨p, _, start_get (i := 0) rfl, hp, ⟨dx, [], rfl, .nil⟩, gp, by simp, fun _ z => Option.some.inj z⟩
      | succ i =>
        have h' : (gam (N.length - 1) as)[i]? = some (.ow q c) := by simpa using h
        rcases gam_get h' with z | ⟨b, e, z⟩ <;> cases z
    · cases i with
      | zero => cases i' with
        | zero => rfl
        | succ i' =>
          have h' : (gam (N.length - 1) as)[i']? = some (.ow v d) := by simpa using h2
          rcases gam_get h' with z | ⟨b, e, z⟩ <;> cases z
      | succ i =>
        have h' : (gam (N.length - 1) as)[i]? = some (.ow u c) := by simpa using h1
        rcases gam_get h' with z | ⟨b, e, z⟩ <;> cases z
  have fr : ∀ {G' H' : Hp} {σ' : L2.St} {Γ' : List Sl}, EnvOk (G, fun a => if a = p then none else H a) G' H' σ' Γ' → ∀ a o, a ≠ p → H a = some o → H' a = some o ∧ G' a = G a := fun en a o ne h =>
    ⟨en.hh a o (by simpa [ne] using h), en.fr a o (by simpa [ne] using h)⟩
  refine sd _ _ _ G H en ?_
  cases r with
  | ok fs =>
    intro σ' G' H' en'
    obtain ⟨q, o', e, h1, h2, h3, h4, h5⟩ := en'.ow 0 _ _ rfl
    have z := h5 p rfl
    subst z
    obtain ⟨dx', ws, rfl, af⟩ := h2
    exact po G' H' dx' ws en'.gg en'.gh (fr en') h3 h1 af
  | ex e => exact fun d σ' G' H' en' er => po d G' H' en'.gg en'.gh (fr en') er
  | bad => exact po
end
end SK

set_option Elab.async false
set_option linter.all false
set_option maxRecDepth 100000
set_option maxHeartbeats 2000000
/-! P4: targets, loops, comprehensions, try. -/
namespace SK
open PySem L2

/-! ### targets -/
def tGs (X : Cx) (ts : List Expr) : TGs := fun vs σ H Q => ∀ pins s us, Inv X pins σ H s → Vals vs us → wpAny (model X.prog X.w) X.A (assignInOrder ((assignEach ts X.env).map (·.2)) us) (fun _ s' => ∃ σ' H', Inv X pins σ' H' s' ∧ Q σ' H') X.xe s
theorem pgs_self {X : Cx} {ts : List Expr} : PGs X ts (tGs X ts) := ⟨fun pins s σ H vs us Q I r h => h pins s us I r⟩
/-- slots that a target stores in are js; the others stay -/
def Oth (js : List Nat) (σ σ' : L2.St) : Prop := σ'.length = σ.length ∧ ∀ i, i ∉ js → σ'[i]? = σ[i]?
theorem Oth.trans {js ks : List Nat} {σ σ' σ'' : L2.St} (a : Oth js σ σ') (b : Oth ks σ' σ'') : Oth (js ++ ks) σ σ'' :=
  ⟨b.1.trans a.1, fun i h => (b.2 i fun z => h (List.mem_append_right _ z)).trans (a.2 i fun z => h (List.mem_append_left _ z))⟩
theorem Oth.one {i : Nat} {σ : L2.St} {x : Option V} : Oth [i] σ (σ.set i x) := ⟨List.length_set, fun j h => List.getElem?_set_ne (fun e => h (by rw [e]; exact List.mem_singleton.mpr rfl))⟩
def GA (X : Cx) (tg : Expr) (Γ : List Sl) (a : A) (Γ' : List Sl) (js : List Nat) : Prop := ∀ B σ G H v Q, EnvOk B G H σ Γ → a.P G v → (∀ σ', EnvOk B G H σ' Γ' → Oth js σ σ' → Q σ' H) → tG X tg v σ H Q
def GAs (X : Cx) (ts : List Expr) (Γ : List Sl) (as : List A) (Γ' : List Sl) (js : List Nat) : Prop := ∀ B σ G H vs Q, EnvOk B G H σ Γ → Are G as vs → (∀ σ', EnvOk B G H σ' Γ' → Oth js σ σ' → Q σ' H) → tGs X ts vs σ H Q
section
variable {cl : Er → Addr} {X : Cx} {W : WX} {N : List Str} {sc : Scope} {k : Nat} {Γ Γ1 Γ2 : List Sl} {pos : Pos} {a : A} {as : List A} {tg : Expr} {ts : List Expr} {js ks : List Nat}
theorem ga_name (F : Fb X N sc) (i : Nat) {x : Str} (hN : N[i]? = some x := by rfl) (hv : Loc sc x := by first | exact Or.inl rfl | exact Or.inr rfl) : GA X (.Name x pos) Γ a (Γ.set i (.im a)) [i] := fun B σ G H v Q en p h pins s u I r =>
  (pg_name (by rw [F.nN]; exact F.nd) (by rw [F.nN]; exact hN) (F.sto x hv).1 (F.sto x hv).2).run pins s σ H v u Q I r (h _ (en.set (EnvOk.lt (B := B) (G := G) I F hN) p) .one)
theorem gas_nil : GAs X [] Γ [] Γ [] := fun B σ G H vs Q en p h pins s us I r => by
  cases p
  exact pgs_nil.run pins s σ H [] us Q I r ⟨rfl, h σ en ⟨rfl, fun _ _ => rfl⟩⟩
theorem gas_cons (h1 : GA X tg Γ a Γ1 js) (h2 : GAs X ts Γ1 as Γ2 ks) (hs : (assignEach (tg :: ts) X.env).map (·.2) = assign tg X.env :: (assignEach ts X.env).map (·.2) := by rfl) : GAs X (tg :: ts) Γ (a :: as) Γ2 (js ++ ks) := fun B σ G H vs Q en p h pins s us I r => by
  cases p with
  | cons pv pr =>
    exact (pgs_cons pg_self pgs_self hs).run pins s σ H _ us Q I r ⟨_, _, rfl, h1 B σ G H _ _ en pv fun σ1 en1 o1 => h2 B σ1 G H _ _ en1 pr fun σ2 en2 o2 => h σ2 en2 (o1.trans o2)⟩
theorem ga_tup {n : Nat} (hc : X.calm = true) (h : GAs X ts Γ as Γ1 js) (hl : as.length = n := by rfl) (hn : (assignEach ts X.env).length = n := by rfl) (hst : (assignEach ts X.env).findIdx? (·.1) = none := by rfl) {k2 : Nat} : GA X (.Tuple ts k2 pos) Γ (aTup as) Γ1 js := fun B σ G H v Q en p hq pins s u I r => by
  obtain ⟨q, vs, rfl, g, ar⟩ := p
  exact (pg_tup hc pgs_self hn hst).run pins s σ H _ u Q I r ⟨q, vs, rfl, SqT.of (en.gh _ _ g), by rw [are_len ar, hl], h B σ G H vs Q en ar hq⟩
theorem ga_lst {n : Nat} (hc : X.calm = true) (h : GAs X ts Γ as Γ1 js) (hl : as.length = n := by rfl) (hn : (assignEach ts X.env).length = n := by rfl) (hst : (assignEach ts X.env).findIdx? (·.1) = none := by rfl) {k2 : Nat} : GA X (.Tuple ts k2 pos) Γ (aLst as) Γ1 js := fun B σ G H v Q en p hq pins s u I r => by
  obtain ⟨q, vs, rfl, g, ar⟩ := p
  exact (pg_lst hc pgs_self hn hst).run pins s σ H _ u Q I r ⟨q, vs, rfl, SqL.of (en.gh _ _ g), by rw [are_len ar, hl], h B σ G H vs Q en ar hq⟩
variable {rest : List Stmt} {K : List (List Stmt)} {o : Out} {e : Expr}
/-- target = e -/
theorem sk_asg (he : EE cl X W e Γ (.ok a)) (hg : GA X tg Γ a Γ1 js) (h : SK cl X W rest K Γ1 o) (hs : swapsWithSole [tg] e pos.line X.env = pure false := by rfl) (hw : swappedStores [tg] e X.env = pure none := by rfl) (h1 : (assignEach [tg] X.env).map (·.2) = [assign tg X.env] := by rfl) : SK cl X W (.Assign [tg] e pos :: rest) K Γ o :=
  sk_one (ps_asg pe_self pg_self hs hw h1) fun B D σ G H en po => he B σ G H _ en fun v G' H' st p => hg B σ G' H' v _ (en.step st) p fun σ' en' _ => h B D σ' G' H' en' po
theorem sk_asgR {α T : Type} {φ : T → Out} {f : α → A} {r : R α} {m : α → R T} {Γ1 : α → List Sl} (he : EE cl X W e Γ (r.map f)) (hg : ∀ v, GA X tg Γ (f v) (Γ1 v) js) (h : ∀ v, r = .ok v → SK cl X W rest K (Γ1 v) (cv φ (m v))) (hs : swapsWithSole [tg] e pos.line X.env = pure false := by rfl) (hw : swappedStores [tg] e X.env = pure none := by rfl) (h1 : (assignEach [tg] X.env).map (·.2) = [assign tg X.env] := by rfl) : SK cl X W (.Assign [tg] e pos :: rest) K Γ (cv φ (r.bind m)) := by
  cases r with
  | ok v => exact sk_asg he (hg v) (h v rfl) hs hw h1
  | ex y => exact sk_one (ps_asg pe_self pg_self hs hw h1) fun B D σ G H en po => he B σ G H _ en fun d G' H' st p => po d σ G' H' (en.step st).any p
  | bad => exact sk_bad
end

/-! ### what a loop walks -/
def Ylds (J : It) (G : Hp) (xs : List A) : Prop := ∀ G1 H1, Sub G G1 → Sub G1 H1 → ∀ i, (∀ x, xs[i]? = some x → J.go i H1 ∧ ∀ v H2, J.yld i H1 v H2 → ∃ G2, Step G1 H1 G2 H2 ∧ x.P G2 v) ∧ (xs.length ≤ i → J.stop i H1)
def tI (X : Cx) (tg it : Expr) : TI := fun σ H R => ∀ pins s, Inv X pins σ H s → wpAny (model X.prog X.w) X.A (eval it X.env) (fun v s1 => wpAny (model X.prog X.w) X.A (pyIter v) (PIE X pins σ tg R) X.xe s1) X.xe s
theorem pi_self {X : Cx} {tg it : Expr} : PI X tg it (tI X tg it) := ⟨fun pins s σ H R I h => h pins s I⟩
/-- bd: their number is known to be small -/
def EI (cl : Er → Addr) (X : Cx) (W : WX) (tg it : Expr) (Γ : List Sl) (xs : List A) (bd : Bool) : Prop := ∀ B σ G H R, EnvOk B G H σ Γ → (∀ J G' H', Step G H G' H' → Ylds J G' xs → (bd = true → xs.length ≤ sizeLine) → R J H') → tI X tg it σ H R
theorem ei_any {cl : Er → Addr} {W : WX} {X : Cx} {tg it : Expr} {Γ : List Sl} {xs : List A} (h : EI cl X W tg it Γ xs true) : EI cl X W tg it Γ xs false := fun B σ G H R en k => h B σ G H R en fun J G' H' st y _ => k J G' H' st y (fun z => nomatch z)
theorem ei_pi {cl : Er → Addr} {W : WX} {X : Cx} {tg it : Expr} {Γ : List Sl} {xs : List A} {bd : Bool} {w : TI} (h : PI X tg it w) (ev : ∀ B σ G H R, EnvOk B G H σ Γ → (∀ J G' H', Step G H G' H' → Ylds J G' xs → R J H') → w σ H R) (hl : bd = true → xs.length ≤ 16777216) : EI cl X W tg it Γ xs bd := fun B σ G H R en k pins s I =>
  h.run pins s σ H R I (ev B σ G H R en fun J G' H' st y => k J G' H' st y fun z => small_line (hl z))
theorem ylds_list {K : PySem.W.Frag} {G : Hp} {p : Addr} {vs : List V} {xs : List A} (g : G p = some (.lst vs)) (r : Are G xs vs) : Ylds (Itl K p) G xs := fun G1 H1 s1 s2 i => by
  have hp := SqL.of (K := K) (s2 _ _ (s1 _ _ g))
  refine ⟨fun x hx => ?_, fun hi => ⟨vs, hp, by rw [are_len r]; exact hi⟩⟩
  obtain ⟨v, h1, h2⟩ := are_get r hx
  refine ⟨⟨vs, v, hp, h1⟩, fun u H2 y => ?_⟩
  obtain ⟨rfl, z⟩ := y
  have e := z vs hp
  rw [h1] at e; cases e
  exact ⟨G1, .refl s2, x.mono s1 h2⟩
theorem ylds_tup {K : PySem.W.Frag} {G : Hp} {p : Addr} {vs : List V} {xs : List A} (g : G p = some (.tup vs)) (r : Are G xs vs) : Ylds (Itt K p) G xs := fun G1 H1 s1 s2 i => by
  have hp := SqT.of (K := K) (s2 _ _ (s1 _ _ g))
  refine ⟨fun x hx => ?_, fun hi => ⟨vs, hp, by rw [are_len r]; exact hi⟩⟩
  obtain ⟨v, h1, h2⟩ := are_get r hx
  refine ⟨⟨vs, v, hp, h1⟩, fun u H2 y => ?_⟩
  obtain ⟨rfl, z⟩ := y
  have e := z vs hp
  rw [h1] at e; cases e
  exact ⟨G1, .refl s2, x.mono s1 h2⟩
def rangeL (lo hi : Int) : List Int := (List.range (hi - lo).toNat).map fun i => lo + (i : Nat)
theorem rangeL_length (lo hi : Int) : (rangeL lo hi).length = (hi - lo).toNat := by unfold rangeL; rw [List.length_map, List.length_range]
theorem rangeL_get {lo hi : Int} {i : Nat} (h : i < (hi - lo).toNat) : (rangeL lo hi)[i]? = some (lo + (i : Nat)) := by
  unfold rangeL; rw [List.getElem?_map, List.getElem?_range h]; rfl
theorem ylds_range {G : Hp} {lo : Int} {n : Nat} {xs : List A} (h : xs = ((List.range n).map fun i => lo + (i : Nat)).map aInt) : Ylds (Itr lo n) G xs := fun G1 H1 s1 s2 i => by
  subst h
  refine ⟨fun x hx => ?_, fun hi => by show n ≤ i; simpa using hi⟩
  have hi : i < n := by
    have := (List.getElem?_eq_some_iff.mp hx).1
    simpa using this
  refine ⟨hi, fun v H2 y => ?_⟩
  obtain ⟨rfl, rfl⟩ := y
  rw [List.getElem?_map, List.getElem?_map, List.getElem?_range hi] at hx
  cases hx
  exact ⟨G1, .refl s2, rfl⟩
section
variable {cl : Er → Addr} {X : Cx} {W : WX} {N : List Str} {sc : Scope} {k : Nat} {Γ : List Sl} {pos p : Pos} {tg it a b : Expr} {xs : List A}
theorem ei_list (h : EE cl X W it Γ (.ok (aLst xs))) : EI cl X W tg it Γ xs true := fun B σ G H R en k pins s I => by
  refine thn ((pi_list (tg := tg) pe_self).run pins s σ H (fun J H' => ∃ q vs G', J = Itl X.K q ∧ Step G H G' H' ∧ G' q = some (.lst vs) ∧ Are G' xs vs) I (h B σ G H _ en fun v G' H' st ⟨q, vs, e, g, r⟩ => ⟨q, e, ⟨vs, SqL.of (st.gh _ _ g)⟩, q, vs, G', rfl, st, g, r⟩)) fun v s1 h1 => thn h1 fun itv s2 ⟨it, fp, tn, J, H', e, I2, T, st2, fpok, q, vs, G', ej, st, g, r⟩ => ?_
  subst ej
  refine ⟨it, fp, tn, _, H', e, I2, T, st2, fpok, k _ G' H' st (ylds_list g r) fun _ => ?_⟩
  obtain ⟨z, _⟩ := (show ObjOk X.prog X.w H' s2.heap q (.lst vs) from I2.hok q _ (st.gh _ _ g))
  rw [← are_len r]; exact z
theorem ei_tup (h : EE cl X W it Γ (.ok (aTup xs))) : EI cl X W tg it Γ xs true := fun B σ G H R en k pins s I => by
  refine thn ((pi_tup (tg := tg) pe_self).run pins s σ H (fun J H' => ∃ q vs G', J = Itt X.K q ∧ Step G H G' H' ∧ G' q = some (.tup vs) ∧ Are G' xs vs) I (h B σ G H _ en fun v G' H' st ⟨q, vs, e, g, r⟩ => ⟨q, e, ⟨vs, SqT.of (st.gh _ _ g)⟩, q, vs, G', rfl, st, g, r⟩)) fun v s1 h1 => thn h1 fun itv s2 ⟨it, fp, tn, J, H', e, I2, T, st2, fpok, q, vs, G', ej, st, g, r⟩ => ?_
  subst ej
  refine ⟨it, fp, tn, _, H', e, I2, T, st2, fpok, k _ G' H' st (ylds_tup g r) fun _ => ?_⟩
  obtain ⟨z, _⟩ := (show ObjOk X.prog X.w H' s2.heap q (.tup vs) from I2.hok q _ (st.gh _ _ g))
  rw [← are_len r]; exact z
theorem ei_scr {ns : List Int} (hl : ns.length ≤ 16777216) (h : EE cl X W it Γ (.ok (aScr X.K ns))) {bd : Bool} : EI cl X W tg it Γ (ns.map aInt) bd :=
  ei_pi (pi_list pe_self) (fun B σ G H R en k => h B σ G H _ en fun v G' H' st pv => by
    obtain ⟨q, e, g⟩ := id pv
    refine ⟨q, e, ⟨_, ((aScr X.K ns).mono st.gh pv).elim fun q' ⟨e', g'⟩ => by rw [e] at e'; cases e'; exact g'⟩, k _ G' H' st ?_⟩
    intro G1 H1 s1 s2 i
    have hp : SqL X.K H1 q (ns.map V.int) := ((aScr X.K ns).mono (s1.trans s2) pv).elim fun q' ⟨e', g'⟩ => by rw [e] at e'; cases e'; exact g'
    refine ⟨fun x hx => ?_, fun hi => ⟨_, hp, by simpa using hi⟩⟩
    rw [List.getElem?_map] at hx
    cases hn : ns[i]? with
    | none => rw [hn] at hx; cases hx
    | some n =>
      rw [hn] at hx; cases hx
      have hv : (ns.map V.int)[i]? = some (.int n) := by rw [List.getElem?_map, hn]; rfl
      refine ⟨⟨_, _, hp, hv⟩, fun u H2 y => ?_⟩
      obtain ⟨rfl, z⟩ := y
      have e2 := z _ hp
      rw [hv] at e2; cases e2
      exact ⟨G1, .refl s2, rfl⟩) fun _ => by simpa using hl
/-- the bounds that a range may have -/
def RngOk (lo hi : Int) : Prop := -(2 ^ 62) ≤ lo ∧ lo < 2 ^ 62 ∧ -(2 ^ 62) ≤ hi ∧ hi < 2 ^ 62
theorem ei_range1 (F : Fb X N sc) {j : Int} {bd : Bool} (hm : X.mg "range" = none) (h : EE cl X W a Γ (.ok (aInt j))) (hj : RngOk 0 j) (hl : bd = true → j ≤ 16777216) (hg : sc.names.lookup ("range" : Str) = some .globalImplicit := by rfl) (hs : starEach [a] X.env = [(false, eval a X.env)] := by rfl) : EI cl X W tg (.Call (.Name "range" p) [a] [] pos) Γ ((rangeL 0 j).map aInt) bd :=
  ei_pi (pi_range1 (F.gl _ hg) hm (pa_cons pe_self pa_nil (by rw [hs]; rfl)) hs) (fun B σ G H R en k => h B σ G H _ en fun v G' H' st p => ⟨j, by rw [p], hj.2.2.1, hj.2.2.2, k _ G' H' st (ylds_range (by unfold rangeL; rw [Int.sub_zero]))⟩) fun z => by
    have := hl z
    rw [List.length_map, rangeL_length]; omega
theorem ei_range2 (F : Fb X N sc) {i j : Int} {bd : Bool} (hm : X.mg "range" = none) (h : EE cl X W a Γ (.ok (aInt i))) (h2 : EE cl X W b Γ (.ok (aInt j))) (hj : RngOk i j) (hl : bd = true → j - i ≤ 16777216) (hg : sc.names.lookup ("range" : Str) = some .globalImplicit := by rfl) (hs : starEach [a, b] X.env = [(false, eval a X.env), (false, eval b X.env)] := by rfl) (hs2 : starEach [b] X.env = [(false, eval b X.env)] := by rfl) : EI cl X W tg (.Call (.Name "range" p) [a, b] [] pos) Γ ((rangeL i j).map aInt) bd :=
  ei_pi (pi_range2 (F.gl _ hg) hm (pa_cons pe_self (pa_cons pe_self pa_nil (by rw [hs2]; rfl)) (by rw [hs, hs2])) hs hs2) (fun B σ G H R en k => h B σ G H _ en fun v G' H' st p => h2 B σ G' H' _ (en.step st) fun v2 G2 H2 st2 p2 => ⟨i, j, by rw [p, p2], hj, k _ G2 H2 (st.trans st2) (ylds_range rfl)⟩) fun z => by
    have := hl z
    rw [List.length_map, rangeL_length]; omega
end

/-! ### for -/
inductive LO (S T : Type) where
  | nx (s : S) | ct (s : S) | bk (s : S) | rt (t : T)
def lo {S T : Type} (Γs : S → List Sl) (ψ : T → A) : LO S T → Out
  | .nx s => .nx (Γs s)
  | .ct s => .ct (Γs s)
  | .bk s => .bk (Γs s)
  | .rt t => .rt (ψ t)
def loopR {S α T : Type} (f : S → α → R (LO S T)) : S → List α → R (LO S T)
  | s, [] => .ok (.nx s)
  | s, x :: l => match f s x with
    | .ok (.nx s') => loopR f s' l
    | .ok (.ct s') => loopR f s' l
    | .ok (.bk s') => .ok (.bk s')
    | .ok (.rt t) => .ok (.rt t)
    | .ex e => .ex e
    | .bad => .bad
/-- behind a loop -/
def R.after {S T U : Type} (r : R (LO S T)) (ret : T → U) (k : S → R U) : R U := match r with
  | .ok (.nx s) => k s
  | .ok (.ct s) => k s
  | .ok (.bk s) => k s
  | .ok (.rt t) => .ok (ret t)
  | .ex e => .ex e
  | .bad => .bad
/-- what stands still is known from here on -/
def joinH (H G : Hp) : Hp := fun a => match H a with
  | some o => some o
  | none => G a
theorem joinH_cases {H G : Hp} {a : Addr} {o : HO} (h : joinH H G a = some o) : H a = some o ∨ (H a = none ∧ G a = some o) := by
  unfold joinH at h
  cases e : H a with
  | some u => rw [e] at h; cases h; exact .inl rfl
  | none => rw [e] at h; exact .inr ⟨rfl, h⟩
section
variable {B : Hp × Hp} {G1 H1 G H : Hp} {σ1 σ : L2.St} {Γ1 Γ : List Sl}
theorem EnvOk.rebase (e1 : EnvOk B G1 H1 σ1 Γ1) (en : EnvOk B G H σ Γ) (sg : Sub G1 G) : EnvOk (G1, joinH B.2 G1) G H σ Γ := by
  refine ⟨sg, fun a o h => ?_, fun a o h => ?_, en.gh, en.im, fun i q c h => ?_, en.ap⟩
  · rcases joinH_cases h with z | ⟨_, z⟩
    · exact en.hh a o z
    · exact en.gh a o (sg a o z)
  · rcases joinH_cases h with z | ⟨_, z⟩
    · exact (en.fr a o z).trans (e1.fr a o z).symm
    · show G a = G1 a
      rw [z]; exact sg a o z
  · obtain ⟨p, o, h1, h2, h3, h4, h5, h6⟩ := en.ow i q c h
    refine ⟨p, o, h1, h2, h3, h4, ?_, h6⟩
    show joinH B.2 G1 p = none
    unfold joinH
    rw [h5]
    exact sg.fre h4
theorem Step.unbase (e1 : EnvOk B G1 H1 σ1 Γ1) (st : Step G1 (joinH B.2 G1) G H) : Step B.1 B.2 G H := by
  have up : Sub B.2 (joinH B.2 G1) := fun a o h => by unfold joinH; rw [h]
  exact ⟨e1.gg.trans st.gg, up.trans st.hh, fun a o h => (st.fr a o (up a o h)).trans (e1.fr a o h), st.gh⟩
theorem EnvOk.unbase (e1 : EnvOk B G1 H1 σ1 Γ1) (en : EnvOk (G1, joinH B.2 G1) G H σ Γ) : EnvOk B G H σ Γ := by
  have st := en.base.unbase e1
  have up : ∀ p, joinH B.2 G1 p = none → B.2 p = none := fun p h => by
    unfold joinH at h
    cases e : B.2 p with
    | none => rfl
    | some o => rw [e] at h; cases h
  exact ⟨st.gg, st.hh, st.fr, st.gh, en.im, fun i q c h => let ⟨p, o, h1, h2, h3, h4, h5, h6⟩ := en.ow i q c h; ⟨p, o, h1, h2, h3, h4, up p h5, h6⟩, en.ap⟩
end
section
variable {cl : Er → Addr} {X : Cx} {W : WX} {N : List Str} {sc : Scope} {k : Nat} {Γ : List Sl} {pos : Pos} {tg it : Expr} {rest body : List Stmt} {K : List (List Stmt)}
theorem sk_for {S α T U : Type} {φ : U → Out} {ψ : T → A} {l : List α} {emb : α → A} {bd : Bool} {f : S → α → R (LO S T)} {s0 : S} {ret : T → U} {m : S → R U} {js : List Nat} (F : Fc X W N sc k) (Γs : S → List Sl) (Γb : S → α → List Sl) (hi : EI cl X W tg it Γ (l.map emb) bd) (h0 : Le Γ (Γs s0)) (hg : ∀ s x, x ∈ l → GA X tg (Γs s) (emb x) (Γb s x) js)
    (hb : ∀ s x, x ∈ l → SK cl X W body [] (Γb s x) (cv (lo Γs ψ) (f s x))) (hk : ∀ s, SK cl X W rest K (Γs s) (cv φ (m s))) (hr : ∀ t, φ (ret t) = .rt (ψ t) := by intro _; rfl) (hs : ∀ x, foldedSetIterable it X.env x = pure x := by intro _; rfl) :
    SK cl X W (.For tg it body [] pos :: rest) K Γ (cv φ ((loopR f s0 l).after ret m)) :=
  sk_one (ps_for F.pas F.calm pi_self pg_self pss_self hs) fun B D σ G H en po => by
    refine hi B σ G H _ en fun J G1 H1 st yl _ => ?_
    have e1 := en.step st
    refine ⟨fun i n σ' H' => ∃ s G', n = l.length - i ∧ i ≤ l.length ∧ EnvOk (G1, joinH B.2 G1) G' H' σ' (Γs s) ∧ loopR f s0 l = loopR f s (l.drop i), ⟨_, s0, G1, rfl, Nat.zero_le _, e1.rebase (e1.le h0) (.refl _), rfl⟩, ?_⟩
    rintro i n σ2 H2 ⟨s, G2, rfl, hil, e2, el⟩
    have yi := yl G2 H2 e2.gg e2.gh i
    by_cases hlt : i < l.length
    · refine .inr ?_
      obtain ⟨x, hx⟩ : ∃ x, l[i]? = some x := ⟨l[i], by simp [hlt]⟩
      have hm : x ∈ l := List.mem_of_getElem? hx
      obtain ⟨go, yd⟩ := yi.1 (emb x) (by rw [List.getElem?_map, hx]; rfl)
      have hd : l.drop i = x :: l.drop (i + 1) := by
        rw [List.drop_eq_getElem_cons hlt]
        rw [List.getElem?_eq_getElem hlt] at hx
        cases hx; rfl
      rw [hd] at el
      refine ⟨go, fun σ3 H3 => ∃ s' G', EnvOk (G1, joinH B.2 G1) G' H3 σ3 (Γs s') ∧ loopR f s0 l = loopR f s' (l.drop (i + 1)), fun σ3 H3 ⟨s', G', h1, h2⟩ => ⟨l.length - (i + 1), by omega, s', G', rfl, hlt, h1, h2⟩, fun v H3 y => ?_⟩
      obtain ⟨G3, st3, pv⟩ := yd v H3 y
      refine hg s x hm _ σ2 G3 H3 v _ (e2.step st3) pv fun σ4 en4 _ => ?_
      refine hb s x hm _ { (tK X K D) with nx := _, ct := _, bk := tS X rest (tK X K D) } σ4 G3 H3 en4 ?_
      have again : ∀ s', loopR f s (x :: l.drop (i + 1)) = loopR f s' (l.drop (i + 1)) → ∀ σ5 G5 H5, EnvOk (G1, joinH B.2 G1) G5 H5 σ5 (Γs s') → ∃ s' G', EnvOk (G1, joinH B.2 G1) G' H5 σ5 (Γs s') ∧ loopR f s0 l = loopR f s' (l.drop (i + 1)) := fun s' q σ5 G5 H5 en5 => ⟨s', G5, en5, el.trans q⟩
      have unf : loopR f s (x :: l.drop (i + 1)) = (match f s x with
        | .ok (.nx s') => loopR f s' (l.drop (i + 1))
        | .ok (.ct s') => loopR f s' (l.drop (i + 1))
        | .ok (.bk s') => .ok (.bk s')
        | .ok (.rt t) => .ok (.rt t)
        | .ex e => .ex e
        | .bad => .bad) := rfl
      cases hf : f s x with
      | ok v =>
        rw [hf] at unf
        cases v with
        | nx s' => exact again s' unf
        | ct s' => exact again s' unf
        | bk s' =>
          rw [el, unf] at po
          intro σ5 G5 H5 en5
          exact hk s' B D σ5 G5 H5 (e1.unbase en5) po
        | rt t =>
          rw [el, unf] at po
          have po' : PostS cl W B D (φ (ret t)) := po
          rw [hr t] at po'
          intro v5 G5 H5 st5 p5
          show (tK X K D).rt v5 H5
          rw [tK_rt]
          exact po' v5 G5 H5 (st5.unbase e1) p5
      | ex e =>
        rw [hf] at unf
        rw [el, unf] at po
        intro d σ5 G5 H5 en5 er
        exact po d σ5 G5 H5 (e1.unbase en5) er
      | bad =>
        rw [hf] at unf
        rw [el, unf] at po
        exact po
    · have e : i = l.length := by omega
      subst e
      refine .inl ⟨yi.2 (by simp), ?_⟩
      rw [List.drop_length] at el
      rw [el] at po
      exact hk s B D σ2 G2 H2 (e1.unbase e2) po
/-- while: the runs of a state -/
inductive Runs {S T : Type} (c : S → R Bool) (f : S → R (LO S T)) : S → R (LO S T) → Prop
  | stop {s : S} : c s = .ok false → Runs c f s (.ok (.nx s))
  | turn {s s' : S} {r : R (LO S T)} : c s = .ok true → f s = .ok (.nx s') → Runs c f s' r → Runs c f s r
  | cont {s s' : S} {r : R (LO S T)} : c s = .ok true → f s = .ok (.ct s') → Runs c f s' r → Runs c f s r
  | brk {s s' : S} : c s = .ok true → f s = .ok (.bk s') → Runs c f s (.ok (.nx s'))
  | rt {s : S} {t : T} : c s = .ok true → f s = .ok (.rt t) → Runs c f s (.ok (.rt t))
  | ex {s : S} {e : Er} : c s = .ok true → f s = .ex e → Runs c f s (.ex e)
  | badc {s : S} {r : R (LO S T)} : c s = .bad → Runs c f s .bad
  | bad {s : S} {r : R (LO S T)} : c s = .ok true → f s = .bad → Runs c f s .bad
end
end SK

set_option Elab.async false
set_option linter.all false
set_option maxRecDepth 100000
set_option maxHeartbeats 2000000
/-! P5: comprehensions, try. -/
namespace SK
open PySem L2

def wipeG (Γ : List Sl) : List Nat → List Sl
  | [] => Γ
  | v :: vs => (wipeG Γ vs).set v .un
theorem wipe_get (σ : L2.St) : ∀ (vs : List Nat) (i : Nat), (wipe σ vs)[i]? = if i ∈ vs ∧ i < σ.length then some none else σ[i]?
  | [], i => by simp [wipe]
  | v :: vs, i => by
    unfold wipe
    by_cases e : v = i
    · subst e
      by_cases hl : v < σ.length
      · rw [List.getElem?_set_self (by rw [wipe_length]; exact hl), if_pos ⟨List.mem_cons_self, hl⟩]
      · rw [List.getElem?_eq_none (by rw [List.length_set, wipe_length]; omega), if_neg (fun z => hl z.2), List.getElem?_eq_none (by omega)]
    · rw [List.getElem?_set_ne e, wipe_get σ vs i]
      have q : (i ∈ v :: vs ∧ i < σ.length) ↔ (i ∈ vs ∧ i < σ.length) := by
        constructor
        · rintro ⟨h1, h2⟩
          rcases List.mem_cons.mp h1 with z | z
          · exact absurd z.symm e
          · exact ⟨z, h2⟩
        · rintro ⟨h1, h2⟩; exact ⟨List.mem_cons_of_mem _ h1, h2⟩
      by_cases h : i ∈ vs ∧ i < σ.length
      · rw [if_pos h, if_pos (q.mpr h)]
      · rw [if_neg h, if_neg (fun z => h (q.mp z))]
theorem wipe_oth {σ σ2 : L2.St} {vs js : List Nat} (o : Oth js (wipe σ vs) σ2) (hj : ∀ j ∈ js, j ∈ vs) : wipe σ2 vs = wipe σ vs := by
  have hl : σ2.length = σ.length := by rw [o.1, wipe_length]
  refine List.ext_getElem? fun i => ?_
  rw [wipe_get, wipe_get, hl]
  by_cases h : i ∈ vs ∧ i < σ.length
  · rw [if_pos h, if_pos h]
  · rw [if_neg h, if_neg h]
    by_cases hi : i ∈ vs
    · have hn : ¬ i < σ.length := fun z => h ⟨hi, z⟩
      rw [List.getElem?_eq_none (by omega), List.getElem?_eq_none (by omega)]
    · rw [o.2 i fun z => hi (hj i z), wipe_get, if_neg h]
section
variable {B : Hp × Hp} {G H : Hp} {σ : L2.St} {Γ : List Sl}
theorem EnvOk.wipe1 {v : Nat} (en : EnvOk B G H σ Γ) : EnvOk B G H (σ.set v none) (Γ.set v .un) := by
  have gs : ∀ {i : Nat} {s : Sl}, (Γ.set v .un)[i]? = some s → s ≠ .un → v ≠ i ∧ Γ[i]? = some s := fun h hn => by
    rcases get_set_of h with ⟨_, e⟩ | ⟨ne, h⟩
    · exact absurd e.symm hn
    · exact ⟨ne, h⟩
  refine ⟨en.gg, en.hh, en.fr, en.gh, fun i a h => ?_, fun i q c h => ?_, fun i j q u c d p h1 h2 e1 e2 => ?_⟩
  · obtain ⟨ne, h'⟩ := gs h (fun z => nomatch z)
    rw [List.getElem?_set_ne ne]; exact en.im i a h'
  · obtain ⟨ne, h'⟩ := gs h (fun z => nomatch z)
    rw [List.getElem?_set_ne ne]; exact en.ow i q c h'
  · obtain ⟨ne1, h1'⟩ := gs h1 (fun z => nomatch z)
    obtain ⟨ne2, h2'⟩ := gs h2 (fun z => nomatch z)
    rw [List.getElem?_set_ne ne1] at e1
    rw [List.getElem?_set_ne ne2] at e2
    exact en.ap i j q u c d p h1' h2' e1 e2
theorem EnvOk.wipe (en : EnvOk B G H σ Γ) : ∀ vs : List Nat, EnvOk B G H (L2.wipe σ vs) (wipeG Γ vs)
  | [] => en
  | _ :: vs => (EnvOk.wipe en vs).wipe1
end
/-! ### the block's context -/
theorem lookup_seconds {f : Str → NameKind → NameKind} {x : Str} : ∀ l : List (Str × NameKind), (l.map fun p => (p.1, f p.1 p.2)).lookup x = (l.lookup x).map (f x)
  | [] => rfl
  | (n, k) :: l => by
    show List.lookup x ((n, f n k) :: _) = _
    rw [List.lookup_cons, List.lookup_cons, lookup_seconds l]
    cases q : x == n with
    | true => rw [eq_of_beq q]; rfl
    | false => rfl
theorem lookup_relabel {env : Env} {names : List (Str × NameKind)} {x : Str} {k : NameKind} (h : names.lookup x = some k) :
    ∃ k', (names.map fun (n, k) => if (k == NameKind.free && env.scope.kind == .function && env.kindOf n == some .cell) then (n, NameKind.cell) else (n, k)).lookup x = some k' ∧ (k ≠ .free → k' = k) ∧ (k = .free → k' = .free ∨ k' = .cell) := by
  let f : Str → NameKind → NameKind := fun n k => if (k == NameKind.free && env.scope.kind == .function && env.kindOf n == some .cell) then .cell else k
  have same : (fun (n, k) => if (k == NameKind.free && env.scope.kind == .function && env.kindOf n == some .cell) then (n, NameKind.cell) else (n, k)) = fun p : Str × NameKind => (p.1, f p.1 p.2) := by
    funext ⟨n, k⟩
    show (if _ then _ else _) = (n, if _ then _ else _)
    split <;> rfl
  refine ⟨f x k, by rw [same, lookup_seconds, h]; rfl, fun no => ?_, fun e => ?_⟩
  · show (if _ then _ else _) = k
    rw [show (k == NameKind.free) = false from beq_false_of_ne no]; rfl
  · show (if _ then _ else _) = _ ∨ (if _ then _ else _) = _
    split
    · exact .inr rfl
    · exact .inl e
abbrev Wno : WX := fun _ _ _ _ => False
section
variable {cl : Er → Addr} {X : Cx} {W : WX} {N : List Str} {sc : Scope} {k : Nat} {Γ : List Sl} {pos : Pos}
theorem Fc.blk (F : Fc X W N sc k) (s : Shared) (H : Hp) (C : Addr) (c : List (Str × Addr)) (fp : List Addr) (scope : Scope) : Fc (X.blk s H scope (compEnvC scope c C X.env) fp) Wno N scope k := by
  refine ⟨⟨F.b.nN, F.b.nd, fun x h => ?_, fun x h => ?_, fun x h => ?_⟩, F.calm, F.room, PassesOwn.never, takes0⟩
  · rcases h with h | h | h
    · obtain ⟨k', e, h1, h2⟩ := lookup_relabel (env := X.env) h
      exact .inl (e.trans (by rw [h1 (fun z => nomatch z)]))
    · obtain ⟨k', e, h1, h2⟩ := lookup_relabel (env := X.env) h
      exact .inr (.inl (e.trans (by rw [h1 (fun z => nomatch z)])))
    · obtain ⟨k', e, h1, h2⟩ := lookup_relabel (env := X.env) h
      rcases h2 rfl with z | z
      · exact .inr (.inr (e.trans (by rw [z])))
      · exact .inr (.inl (e.trans (by rw [z])))
  · rcases h with h | h
    · obtain ⟨k', e, h1, h2⟩ := lookup_relabel (env := X.env) h
      have q : (relabel scope X.env).names.lookup x = some .local := e.trans (by rw [h1 (fun z => nomatch z)])
      exact ⟨.inl q, .inr q⟩
    · obtain ⟨k', e, h1, h2⟩ := lookup_relabel (env := X.env) h
      have q : (relabel scope X.env).names.lookup x = some .cell := e.trans (by rw [h1 (fun z => nomatch z)])
      refine ⟨.inr q, .inl ?_⟩
      show (scope.names.lookup x == some .cell) = true
      rw [h]; rfl
  · obtain ⟨k', e, h1, h2⟩ := lookup_relabel (env := X.env) h
    exact e.trans (by rw [h1 (fun z => nomatch z)])
def tEb (X : Cx) (scope : Scope) (e : Expr) : TE := fun σ H Q => ∀ s H0 C c fp, tE (X.blk s H0 scope (compEnvC scope c C X.env) fp) e σ H Q
def tTb (X : Cx) (scope : Scope) (e : Expr) : TT := fun σ H Q => ∀ s H0 C c fp, tT (X.blk s H0 scope (compEnvC scope c C X.env) fp) e σ H Q
def tGb (X : Cx) (scope : Scope) (e : Expr) : TG := fun v σ H Q => ∀ s H0 C c fp, tG (X.blk s H0 scope (compEnvC scope c C X.env) fp) e v σ H Q
variable {scope : Scope} {own : List (Str × Nat)} {tg it elt : Expr}
/-- a comprehension's turns -/
theorem lc_read {α : Type} {l : List α} {emb out : α → A} {cnd : α → Bool} {Γb : α → List Sl} {js : List Nat} {tt : TT} {vs : List Nat} (hi : EI cl X W tg it Γ (l.map emb) true)
    (hg : ∀ s H0 C c fp x, x ∈ l → GA (X.blk s H0 scope (compEnvC scope c C X.env) fp) tg (wipeG Γ vs) (emb x) (Γb x) js) (hj : ∀ j ∈ js, j ∈ vs)
    (ht : ∀ x, x ∈ l → ∀ B σ G H Q, EnvOk B G H σ (Γb x) → (∀ G' H', Step G H G' H' → Q (cnd x) H') → tt σ H Q)
    (he : ∀ s H0 C c fp x, x ∈ l → cnd x = true → EE cl (X.blk s H0 scope (compEnvC scope c C X.env) fp) Wno elt (Γb x) (.ok (out x))) :
    ∀ B σ G H Q, EnvOk B G H σ Γ → (∀ D G' H' acc, Step G H G' H' → H D = none → G' D = none → H' D = some (.lst acc) → Are G' ((l.filter cnd).map out) acc → Q (.ref D) H') → tLc (tI X tg it) (tGb X scope tg) tt (tEb X scope elt) vs σ H Q := fun B σ G H Q en k => by
  refine hi B σ G H _ en fun J G1 H1 st yl bd => fun D hD => ?_
  have hbd : l.length ≤ sizeLine := by have := bd rfl; rwa [List.length_map] at this
  have en1 := (en.step st).wipe vs
  refine ⟨fun i m H' => ∃ G' acc, m = l.length - i ∧ i ≤ l.length ∧ Step G1 H1 G' H' ∧ G' D = none ∧ H' D = some (.lst acc) ∧ Are G' (((l.take i).filter cnd).map out) acc ∧ acc.length ≤ i,
    ⟨_, G1, [], rfl, Nat.zero_le _, .newH st.gh hD, st.gh.fre hD, upd_same, by rw [List.take_zero]; exact .nil, Nat.le_refl _⟩, ?_⟩
  rintro i m H2 ⟨G2, acc, rfl, hil, s2, g2, h2, ar, hac⟩
  have yi := yl G2 H2 s2.gg s2.gh i
  by_cases hlt : i < l.length
  · refine .inr ?_
    obtain ⟨x, hx⟩ : ∃ x, l[i]? = some x := ⟨l[i], by simp [hlt]⟩
    have hm : x ∈ l := List.mem_of_getElem? hx
    have htk : l.take (i + 1) = l.take i ++ [x] := by
      rw [List.take_succ, hx]; rfl
    obtain ⟨go, yd⟩ := yi.1 (emb x) (by rw [List.getElem?_map, hx]; rfl)
    refine ⟨go, fun H' => ∃ G' acc, Step G1 H1 G' H' ∧ G' D = none ∧ H' D = some (.lst acc) ∧ Are G' (((l.take (i + 1)).filter cnd).map out) acc ∧ acc.length ≤ i + 1, fun H' ⟨G', acc', a1, a2, a3, a4, a5⟩ => ⟨_, by omega, G', acc', rfl, hlt, a1, a2, a3, a4, a5⟩, fun v H3 y => ?_⟩
    obtain ⟨G3, s3, pv⟩ := yd v H3 y
    have keep : ∀ {Ga Ha Gb Hb : Hp}, Step Ga Ha Gb Hb → Ga D = none → Ha D = some (.lst acc) → Gb D = none ∧ Hb D = some (.lst acc) := fun s a b => ⟨(s.fr _ _ b).trans a, s.hh _ _ b⟩
    obtain ⟨g3, h3⟩ := keep s3 g2 h2
    refine fun s0 H0 C c fp => hg s0 H0 C c fp x hm B _ G3 H3 v _ (en1.step (s2.trans s3)) pv fun σ4 en4 ot => ⟨wipe_oth ot hj, ?_⟩
    refine ht x hm B σ4 G3 H3 _ en4 fun G5 H5 s5 => ?_
    obtain ⟨g5, h5⟩ := keep s5 g3 h3
    cases hc : cnd x with
    | true =>
      rw [if_pos rfl]
      refine fun s0 H0 C c fp => he s0 H0 C c fp x hm hc B σ4 G5 H5 _ (en4.step s5) fun u G6 H6 s6 pu => ?_
      obtain ⟨g6, h6⟩ := keep s6 g5 h5
      refine ⟨acc, h6, by omega, G6, acc ++ [u], ?_, g6, upd_same, ?_, by rw [List.length_append, List.length_singleton]; omega⟩
      · have s16 := ((s2.trans s3).trans s5).trans s6
        exact ⟨s16.gg, fun a o q => by rw [upd_ne (ne_of_none q hD)]; exact s16.hh a o q, s16.fr, s16.gh.insR g6⟩
      · rw [htk, List.filter_append, List.map_append, show [x].filter cnd = [x] by simp [hc]]
        exact Paired.snoc (ar.mono ((s3.gg.trans s5.gg).trans s6.gg)) pu
    | false =>
      rw [if_neg Bool.false_ne_true]
      refine ⟨G5, acc, (s2.trans s3).trans s5, g5, h5, ?_, by omega⟩
      rw [htk, List.filter_append, show [x].filter cnd = [] by simp [hc], List.append_nil]
      exact ar.mono (s3.gg.trans s5.gg)
  · have e : i = l.length := by omega
    subst e
    refine .inl ⟨yi.2 (by simp), k D G2 H2 acc (st.trans s2) ?_ g2 h2 (by rwa [List.take_length] at ar)⟩
    cases q : H D with
    | none => rfl
    | some o => have := st.hh _ _ q; rw [hD] at this; cases this
theorem pe_lcS (F : Fc X W N sc k) (hsc : X.env.scope = sc) {ifs : List Expr} {tt : TT} (hblk : blkC N sc scope own = true) (htt : ∀ (s : Shared) (H : Hp) (C : Addr) (c : List (Str × Addr)) (fp : List Addr), PTs (X.blk s H scope (compEnvC scope c C X.env) fp) ifs tt) (hs : ∀ x, foldedSetIterable it X.env x = pure x := by intro _; rfl) :
    PE X (.ListComp elt [⟨tg, it, ifs, 0⟩] scope pos) (tLc (tI X tg it) (tGb X scope tg) tt (tEb X scope elt) (own.map (·.2))) :=
  pe_lc F.calm (by rw [F.b.nN]; exact F.b.nd) pi_self (by rw [F.b.nN, hsc]; exact blkOk_by hblk) (fun s H C c fp => ⟨fun pins s' σ H' v u Q I r h => h s H C c fp pins s' u I r⟩) htt (fun s H C c fp => ⟨fun pins s' σ H' Q I h => h s H C c fp pins s' I⟩) hs
theorem lc_frz {G H : Hp} {σ : L2.St} {Q : VK} {as : List A} (po : PostE cl W G H σ Q (.ok (aLst as))) : ∀ D G' H' acc, Step G H G' H' → H D = none → G' D = none → H' D = some (.lst acc) → Are G' as acc → Q (.ref D) H' := fun D G' H' acc st hD gD h' ar =>
  po (.ref D) (upd G' D (.lst acc)) H' ⟨st.gg.trans (.ins gD), st.hh, fun a o q => by rw [upd_ne (ne_of_none q hD)]; exact st.fr a o q, fun a o q => by
    by_cases e : a = D
    · subst e; rw [upd_same] at q; cases q; exact h'
    · rw [upd_ne e] at q; exact st.gh a o q⟩ ⟨D, acc, rfl, upd_same, ar.mono (.ins gD)⟩
theorem tYes_read {α : Type} {l : List α} {Γb : α → List Sl} : ∀ x, x ∈ l → ∀ B σ G H Q, EnvOk B G H σ (Γb x) → (∀ G' H', Step G H G' H' → Q ((fun _ => true) x) H') → tYes σ H Q := fun x _ B σ G H Q en k => k G H (.refl en.gh)
theorem filter_true {α : Type} : ∀ l : List α, l.filter (fun _ => true) = l
  | [] => rfl
  | x :: l => by rw [List.filter_cons, if_pos rfl, filter_true l]
/-- [e for x in ..] -/
theorem ee_lcM {α : Type} {l : List α} {emb out : α → A} {Γb : α → List Sl} {js : List Nat} (F : Fc X W N sc k) (hsc : X.env.scope = sc) (own : List (Str × Nat)) (hi : EI cl X W tg it Γ (l.map emb) true)
    (hg : ∀ s H0 C c fp x, x ∈ l → GA (X.blk s H0 scope (compEnvC scope c C X.env) fp) tg (wipeG Γ (own.map (·.2))) (emb x) (Γb x) js)
    (he : ∀ s H0 C c fp x, x ∈ l → EE cl (X.blk s H0 scope (compEnvC scope c C X.env) fp) Wno elt (Γb x) (.ok (out x)))
    (hblk : blkC N sc scope own = true := by decide +kernel) (hj : ∀ j ∈ js, j ∈ own.map (·.2) := by decide) (hs : ∀ x, foldedSetIterable it X.env x = pure x := by intro _; rfl) :
    EE cl X W (.ListComp elt [⟨tg, it, [], 0⟩] scope pos) Γ (.ok (aLst (l.map out))) :=
  ee_pe (pe_lcS F hsc hblk (fun _ _ _ _ _ => pts_nil) hs) fun B σ G H Q en po => lc_read hi hg hj tYes_read (fun s H0 C c fp x hx _ => he s H0 C c fp x hx) B σ G H Q en (by rw [filter_true]; exact lc_frz po)
/-- y = [e for x in ..] -/
theorem sk_lcM {α : Type} {l : List α} {emb out : α → A} {Γb : α → List Sl} {js : List Nat} {rest : List Stmt} {K : List (List Stmt)} {o : Out} {py spos : Pos} {y : Str} (F : Fc X W N sc k) (hsc : X.env.scope = sc) (i : Nat) (own : List (Str × Nat)) (hi : EI cl X W tg it Γ (l.map emb) true)
    (hg : ∀ s H0 C c fp x, x ∈ l → GA (X.blk s H0 scope (compEnvC scope c C X.env) fp) tg (wipeG Γ (own.map (·.2))) (emb x) (Γb x) js)
    (he : ∀ s H0 C c fp x, x ∈ l → EE cl (X.blk s H0 scope (compEnvC scope c C X.env) fp) Wno elt (Γb x) (.ok (out x)))
    (h : SK cl X W rest K (Γ.set i (.im (aLst (l.map out)))) o) (hN : N[i]? = some y := by rfl) (hv : sc.names.lookup y = some .local := by rfl) (hkd : sc.kind = .function := by rfl) (hl : (py.line == pos.line) = true := by rfl) (hlin : spos.line = pos.line := by rfl)
    (ha : (scope.names.any fun (n, k) => n == y && (k == .local || k == .cell)) = false := by decide +kernel)
    (hblk : blkC N sc scope own = true := by decide +kernel) (hj : ∀ j ∈ js, j ∈ own.map (·.2) := by decide) (hs : ∀ x, foldedSetIterable it X.env x = pure x := by intro _; rfl) :
    SK cl X W (.Assign [.Name y py] (.ListComp elt [⟨tg, it, [], 0⟩] scope pos) spos :: rest) K Γ o := fun B D σ G H en po pins s I =>
  (pss_cons (ps_setLc (i := i) F.calm (by rw [F.b.nN]; exact F.b.nd) (by rw [F.b.nN]; exact hN) (by rw [hsc]; exact hv) (by rw [hlin]; exact sw_true (by rw [hsc]; exact hkd) (by rw [hsc]; exact hv) hl ha) pi_self (by rw [F.b.nN, hsc]; exact blkOk_by hblk) (fun s H C c fp => (⟨fun pins s' σ H' v u Q I r h => h s H C c fp pins s' u I r⟩ : PG _ tg (tGb X scope tg))) (fun _ _ _ _ _ => pts_nil) (fun s H C c fp => (⟨fun pins s' σ H' Q I h => h s H C c fp pins s' I⟩ : PE _ elt (tEb X scope elt))) hs) pss_self).run pins s σ H _ I
    (lc_read hi hg hj tYes_read (fun s H0 C c fp x hx _ => he s H0 C c fp x hx) B σ G H (fun v H' => tS X rest (tK X K D) (σ.set i (some v)) H') en (by rw [filter_true]; exact lc_frz (cl := cl) (W := W) (σ := σ) fun v G' H' st p => h B D _ G' H' ((en.step st).set (EnvOk.lt (B := B) (G := G) I F.b hN) p) po))
/-- [e for x in .. if t] -/
theorem ee_lcF {α : Type} {l : List α} {emb out : α → A} {cnd : α → Bool} {Γb : α → List Sl} {js : List Nat} {tst : Expr} (F : Fc X W N sc k) (hsc : X.env.scope = sc) (own : List (Str × Nat)) (hi : EI cl X W tg it Γ (l.map emb) true)
    (hg : ∀ s H0 C c fp x, x ∈ l → GA (X.blk s H0 scope (compEnvC scope c C X.env) fp) tg (wipeG Γ (own.map (·.2))) (emb x) (Γb x) js)
    (ht : ∀ s H0 C c fp x, x ∈ l → TD cl (X.blk s H0 scope (compEnvC scope c C X.env) fp) Wno tst (Γb x) (.ok (cnd x)))
    (he : ∀ s H0 C c fp x, x ∈ l → cnd x = true → EE cl (X.blk s H0 scope (compEnvC scope c C X.env) fp) Wno elt (Γb x) (.ok (out x)))
    (hblk : blkC N sc scope own = true := by decide +kernel) (hj : ∀ j ∈ js, j ∈ own.map (·.2) := by decide) (hs : ∀ x, foldedSetIterable it X.env x = pure x := by intro _; rfl) :
    EE cl X W (.ListComp elt [⟨tg, it, [tst], 0⟩] scope pos) Γ (.ok (aLst ((l.filter cnd).map out))) :=
  ee_pe (pe_lcS (tt := tTb X scope tst) F hsc hblk (fun s H C c fp => pts_one ⟨fun pins s' σ H' Q I h => h s H C c fp pins s' I⟩) hs) fun B σ G H Q en po => lc_read hi hg hj (fun x hx B σ G H Q en k => fun s H0 C c fp => ht s H0 C c fp x hx B σ G H Q en k) (fun s H0 C c fp x hx q => he s H0 C c fp x hx q) B σ G H Q en (lc_frz po)
theorem sk_lcF {α : Type} {l : List α} {emb out : α → A} {cnd : α → Bool} {Γb : α → List Sl} {js : List Nat} {tst : Expr} {rest : List Stmt} {K : List (List Stmt)} {o : Out} {py spos : Pos} {y : Str} (F : Fc X W N sc k) (hsc : X.env.scope = sc) (i : Nat) (own : List (Str × Nat)) (hi : EI cl X W tg it Γ (l.map emb) true)
    (hg : ∀ s H0 C c fp x, x ∈ l → GA (X.blk s H0 scope (compEnvC scope c C X.env) fp) tg (wipeG Γ (own.map (·.2))) (emb x) (Γb x) js)
    (ht : ∀ s H0 C c fp x, x ∈ l → TD cl (X.blk s H0 scope (compEnvC scope c C X.env) fp) Wno tst (Γb x) (.ok (cnd x)))
    (he : ∀ s H0 C c fp x, x ∈ l → cnd x = true → EE cl (X.blk s H0 scope (compEnvC scope c C X.env) fp) Wno elt (Γb x) (.ok (out x)))
    (h : SK cl X W rest K (Γ.set i (.im (aLst ((l.filter cnd).map out)))) o) (hN : N[i]? = some y := by rfl) (hv : sc.names.lookup y = some .local := by rfl) (hkd : sc.kind = .function := by rfl) (hl : (py.line == pos.line) = true := by rfl) (hlin : spos.line = pos.line := by rfl)
    (ha : (scope.names.any fun (n, k) => n == y && (k == .local || k == .cell)) = false := by decide +kernel)
    (hblk : blkC N sc scope own = true := by decide +kernel) (hj : ∀ j ∈ js, j ∈ own.map (·.2) := by decide) (hs : ∀ x, foldedSetIterable it X.env x = pure x := by intro _; rfl) :
    SK cl X W (.Assign [.Name y py] (.ListComp elt [⟨tg, it, [tst], 0⟩] scope pos) spos :: rest) K Γ o := fun B D σ G H en po pins s I =>
  (pss_cons (ps_setLc (i := i) (tt := tTb X scope tst) F.calm (by rw [F.b.nN]; exact F.b.nd) (by rw [F.b.nN]; exact hN) (by rw [hsc]; exact hv) (by rw [hlin]; exact sw_true (by rw [hsc]; exact hkd) (by rw [hsc]; exact hv) hl ha) pi_self (by rw [F.b.nN, hsc]; exact blkOk_by hblk) (fun s H C c fp => (⟨fun pins s' σ H' v u Q I r h => h s H C c fp pins s' u I r⟩ : PG _ tg (tGb X scope tg))) (fun s H C c fp => pts_one ⟨fun pins s' σ H' Q I h => h s H C c fp pins s' I⟩) (fun s H C c fp => (⟨fun pins s' σ H' Q I h => h s H C c fp pins s' I⟩ : PE _ elt (tEb X scope elt))) hs) pss_self).run pins s σ H _ I
    (lc_read hi hg hj (fun x hx B σ G H Q en k => fun s H0 C c fp => ht s H0 C c fp x hx B σ G H Q en k) (fun s H0 C c fp x hx q => he s H0 C c fp x hx q) B σ G H (fun v H' => tS X rest (tK X K D) (σ.set i (some v)) H') en (lc_frz (cl := cl) (W := W) (σ := σ) fun v G' H' st p => h B D _ G' H' ((en.step st).set (EnvOk.lt (B := B) (G := G) I F.b hN) p) po))
end
/-- each item by a def that may lack what it needs -/
def mapR {α β : Type} (f : α → R β) : List α → R (List β)
  | [] => .ok []
  | x :: l => (f x).need fun y => (mapR f l).need fun ys => .ok (y :: ys)
theorem mapR_ok {α β : Type} {f : α → R β} : ∀ {l : List α} {ys : List β}, mapR f l = .ok ys → (∀ x, x ∈ l → ∃ y, f x = .ok y) ∧ ∀ (g : β → A) (h : α → A), (∀ x y, f x = .ok y → h x = g y) → ys.map g = l.map h
  | [], ys, e => by cases e; exact ⟨fun _ z => by simp at z, fun _ _ _ => rfl⟩
  | x :: l, ys, e => by
    unfold mapR at e
    cases hf : f x with
    | ok y =>
      rw [hf] at e
      have e' : (mapR f l).need (fun ys => .ok (y :: ys)) = .ok ys := e
      cases hm : mapR f l with
      | ok zs =>
        rw [hm] at e'
        cases e'
        obtain ⟨h1, h2⟩ := mapR_ok hm
        refine ⟨fun z hz => ?_, fun g h hh => ?_⟩
        · rcases List.mem_cons.mp hz with q | q
          · subst q; exact ⟨y, hf⟩
          · exact h1 z q
        · rw [List.map_cons, List.map_cons, h2 g h hh, hh x y hf]
      | ex _ => rw [hm] at e'; cases e'
      | bad => rw [hm] at e'; cases e'
    | ex _ => rw [hf] at e; cases e
    | bad => rw [hf] at e; cases e
/-- the value that is there -/
def outR {α β : Type} (f : α → R β) (g : β → A) (x : α) : A := match f x with
  | .ok y => g y
  | _ => aNone
theorem outR_ok {α β : Type} {f : α → R β} {g : β → A} {x : α} {y : β} (h : f x = .ok y) : outR f g x = g y := by unfold outR; rw [h]
section
variable {cl : Er → Addr} {X : Cx} {W : WX} {N : List Str} {sc : Scope} {k : Nat} {Γ : List Sl} {pos : Pos} {scope : Scope} {tg it elt : Expr}
theorem ee_lcR {α β : Type} {l : List α} {emb : α → A} {f : α → R β} {g : β → A} {Γb : α → List Sl} {js : List Nat} {ys : List β} (F : Fc X W N sc k) (hsc : X.env.scope = sc) (own : List (Str × Nat)) (hi : EI cl X W tg it Γ (l.map emb) true)
    (hg : ∀ s H0 C c fp x, x ∈ l → GA (X.blk s H0 scope (compEnvC scope c C X.env) fp) tg (wipeG Γ (own.map (·.2))) (emb x) (Γb x) js)
    (hm : mapR f l = .ok ys) (he : ∀ s H0 C c fp x y, x ∈ l → f x = .ok y → EE cl (X.blk s H0 scope (compEnvC scope c C X.env) fp) Wno elt (Γb x) (.ok (g y)))
    (hblk : blkC N sc scope own = true := by decide +kernel) (hj : ∀ j ∈ js, j ∈ own.map (·.2) := by decide) (hs : ∀ x, foldedSetIterable it X.env x = pure x := by intro _; rfl) :
    EE cl X W (.ListComp elt [⟨tg, it, [], 0⟩] scope pos) Γ (.ok (aLst (ys.map g))) := by
  obtain ⟨h1, h2⟩ := mapR_ok hm
  rw [h2 g (outR f g) fun x y q => outR_ok q]
  refine ee_lcM F hsc own hi hg (fun s H0 C c fp x hx => ?_) hblk hj hs
  obtain ⟨y, hy⟩ := h1 x hx
  rw [outR_ok hy]
  exact he s H0 C c fp x y hx hy
theorem sk_lcR {α β : Type} {l : List α} {emb : α → A} {f : α → R β} {g : β → A} {Γb : α → List Sl} {js : List Nat} {ys : List β} {rest : List Stmt} {K : List (List Stmt)} {o : Out} {py spos : Pos} {y : Str} (F : Fc X W N sc k) (hsc : X.env.scope = sc) (i : Nat) (own : List (Str × Nat)) (hi : EI cl X W tg it Γ (l.map emb) true)
    (hg : ∀ s H0 C c fp x, x ∈ l → GA (X.blk s H0 scope (compEnvC scope c C X.env) fp) tg (wipeG Γ (own.map (·.2))) (emb x) (Γb x) js)
    (hm : mapR f l = .ok ys) (he : ∀ s H0 C c fp x y, x ∈ l → f x = .ok y → EE cl (X.blk s H0 scope (compEnvC scope c C X.env) fp) Wno elt (Γb x) (.ok (g y)))
    (h : SK cl X W rest K (Γ.set i (.im (aLst (ys.map g)))) o) (hN : N[i]? = some y := by rfl) (hv : sc.names.lookup y = some .local := by rfl) (hkd : sc.kind = .function := by rfl) (hl : (py.line == pos.line) = true := by rfl) (hlin : spos.line = pos.line := by rfl)
    (ha : (scope.names.any fun (n, k) => n == y && (k == .local || k == .cell)) = false := by decide +kernel)
    (hblk : blkC N sc scope own = true := by decide +kernel) (hj : ∀ j ∈ js, j ∈ own.map (·.2) := by decide) (hs : ∀ x, foldedSetIterable it X.env x = pure x := by intro _; rfl) :
    SK cl X W (.Assign [.Name y py] (.ListComp elt [⟨tg, it, [], 0⟩] scope pos) spos :: rest) K Γ o := by
  obtain ⟨h1, h2⟩ := mapR_ok hm
  rw [h2 g (outR f g) fun x y q => outR_ok q] at h
  refine sk_lcM F hsc i own hi hg (fun s H0 C c fp x hx => ?_) h hN hv hkd hl hlin ha hblk hj hs
  obtain ⟨y, hy⟩ := h1 x hx
  rw [outR_ok hy]
  exact he s H0 C c fp x y hx hy
end

/-! ### try .. except C: -/
/-- how a try's body ends -/
inductive LT (S T : Type) where
  | nx (s : S) | rt (t : T)
def lt {S T : Type} (Γs : S → List Sl) (ψ : T → A) : LT S T → Out
  | .nx s => .nx (Γs s)
  | .rt t => .rt (ψ t)
/-- c: which errors a clause takes; f: what its suite does -/
def catchR {S T : Type} (r : R (LT S T)) (c : Er → Bool) (f : Er → R (LT S T)) : R (LT S T) := match r with
  | .ex e => cond (c e) ((f e).need .ok) (.ex e)
  | .ok v => .ok v
  | .bad => .bad
def R.then {S T U : Type} (r : R (LT S T)) (ret : T → U) (k : S → R U) : R U := match r with
  | .ok (.nx s) => k s
  | .ok (.rt t) => .ok (ret t)
  | .ex e => .ex e
  | .bad => .bad
section
variable {cl : Er → Addr} {X : Cx} {W : WX} {N : List Str} {sc : Scope} {k : Nat} {Γ : List Sl} {pos np pos' : Pos} {body suite rest : List Stmt} {K : List (List Stmt)} {x : Str} {b0 : Stmt}
theorem Fc.tr (F : Fc X W N sc k) {pn : List (Addr × Obj)} {xe : Value → Shared → Prop} {W' : WX} (tk : Takes (X.tr pn xe) W') (hp : PassesOwn (model X.prog X.w) X.A X.env xe) : Fc (X.tr pn xe) W' N sc k :=
  ⟨⟨F.b.nN, F.b.nd, F.b.vis, F.b.sto, F.b.gl⟩, F.calm, F.room, hp, tk⟩
/-- the suite, no def called in it -/
theorem sk_try {S T U : Type} {φ : U → Out} {ψ : T → A} {ret : T → U} {m : S → R U} {r : R (LT S T)} {c : Er → Bool} {f : Er → R (LT S T)} {cv0 : Value} (F : Fc X W N sc k) (Γs : S → List Sl) (hst : X.stack = X.env :: X.outer) (hf : X.env.frame = some X.env.locals) (hc : Names X x cv0) (hm : ∀ e, r = .ex e → PySem.W.exmOne X.K (.ref (cl e)) cv0 = some (c e))
    (hb : ∀ pn xe (W' : WX), Fc (X.tr pn xe) W' N sc k → SK cl (X.tr pn xe) W' body [] Γ (cv (lt Γs ψ) r)) (Γe : List Sl) (hΓ : ∀ pn xe (W' : WX), Fc (X.tr pn xe) W' N sc k → ∀ e, r = .ex e → SK cl (X.tr pn xe) W' body [] Γ (.ex e Γe))
    (hsu : ∀ (a : Addr) (oe : Obj) (pn : List (Addr × Obj)) e, r = .ex e → c e = true → Fb (X.suite a ((a, oe) :: pn)) N sc → SK cl (X.suite a ((a, oe) :: pn)) Wno (b0 :: suite) [] Γe (cv (lt Γs ψ) (f e)))
    (hk : ∀ s, SK cl X W rest K (Γs s) (cv φ (m s))) (hr : ∀ t, φ (ret t) = .rt (ψ t) := by intro _; rfl) :
    SK cl X W (.Try body [.ExceptHandler (some (.Name x np)) none (b0 :: suite) pos'] [] [] pos :: rest) K Γ (cv φ ((catchR r c f).then ret m)) := by
  refine sk_one (ps_try_only (Wout := W) (tb := fun W' D σ H => ∀ pn xe, Takes (X.tr pn xe) W' → PassesOwn (model X.prog X.w) X.A X.env xe → tS (X.tr pn xe) body D σ H) (ts := fun a cls d D σ H => ∀ oe pn, Zc cls d oe → (∃ vs, oe.data = .fields vs) → tS (X.suite a ((a, oe) :: pn)) (b0 :: suite) D σ H)
    hst hf hc F.tk (fun W' pn xe tk hp => ⟨fun pins s σ H D I h => h pn xe tk hp pins s I⟩) (fun a oe cls d pn hz hd => ⟨fun pins s σ H D I h => h oe pn hz hd pins s I⟩)) fun B D σ G H en po => ?_
  intro pn xe tk hp
  cases r with
  | ok v =>
    refine hb pn xe _ (F.tr tk hp) B { (tK X K D) with nx := tS X rest (tK X K D) } σ G H en ?_
    cases v with
    | nx s => exact fun σ' G' H' en' => hk s B D σ' G' H' en' po
    | rt t =>
      have po' : PostS cl W B D (φ (ret t)) := po
      rw [hr t] at po'
      intro v5 G5 H5 st5 p5
      show (tK X K D).rt v5 H5
      rw [tK_rt]
      exact po' v5 G5 H5 st5 p5
  | ex e =>
    refine hΓ pn xe _ (F.tr tk hp) e rfl B { (tK X K D) with nx := tS X rest (tK X K D) } σ G H en ?_
    intro d σ' G' H' en' er
    refine ⟨c e, hm e rfl, fun hce a ha => ?_, fun hce => ?_⟩
    · intro oe pn' hz hd
      refine hsu a oe pn' e rfl hce ⟨F.b.nN, F.b.nd, F.b.vis, F.b.sto, F.b.gl⟩ B { (tK X K D) with nx := tS X rest (tK X K D) } σ' G' H' en' ?_
      have po' : PostS cl W B D (cv φ ((f e).then ret m)) := by
        cases hfe : f e with
        | ok v =>
          have : catchR (.ex e) c f = .ok v := by show cond (c e) ((f e).need .ok) (.ex e) = .ok v; rw [hce, hfe]; rfl
          rw [this] at po; exact po
        | ex _ =>
          have : catchR (.ex e) c f = .bad := by show cond (c e) ((f e).need .ok) (.ex e) = .bad; rw [hce, hfe]; rfl
          rw [this] at po; exact False.elim po
        | bad =>
          have : catchR (.ex e) c f = .bad := by show cond (c e) ((f e).need .ok) (.ex e) = .bad; rw [hce, hfe]; rfl
          rw [this] at po; exact False.elim po
      cases hfe : f e with
      | ok v =>
        rw [hfe] at po'
        cases v with
        | nx s => exact fun σ'' G'' H'' en'' => hk s B D σ'' G'' H'' en'' po'
        | rt t =>
          have po2 : PostS cl W B D (φ (ret t)) := po'
          rw [hr t] at po2
          intro v5 G5 H5 st5 p5
          show (tK X K D).rt v5 H5
          rw [tK_rt]
          exact po2 v5 G5 H5 st5 p5
      | ex e2 =>
        have : catchR (.ex e) c f = .bad := by show cond (c e) ((f e).need .ok) (.ex e) = .bad; rw [hce, hfe]; rfl
        rw [this] at po; exact False.elim po
      | bad => rw [hfe] at po'; exact po'
    · have : catchR (.ex e) c f = (.ex e : R (LT S T)) := by show cond (c e) ((f e).need .ok) (.ex e) = .ex e; rw [hce]; rfl
      rw [this] at po
      exact po d σ' G' H' en'.any er
  | bad => exact False.elim po
end
end SK

set_option Elab.async false
set_option linter.all false
set_option maxRecDepth 100000
set_option maxHeartbeats 2000000
/-! P6: built-in calls, == of data, lists. -/
namespace SK
open PySem L2
section
variable {cl : Er → Addr} {X : Cx} {W : WX} {N : List Str} {sc : Scope} {k : Nat} {Γ : List Sl} {pos p : Pos} {a b c : Expr} {es : List Expr} {xs ys : List A} {a1 a2 : A}

theorem are1 {G : Hp} {x : A} {vs : List V} (h : Are G [x] vs) : ∃ v, vs = [v] ∧ x.P G v := by
  cases h with
  | cons h t => cases t; exact ⟨_, rfl, h⟩
theorem are2 {G : Hp} {x y : A} {vs : List V} (h : Are G [x, y] vs) : ∃ v w, vs = [v, w] ∧ x.P G v ∧ y.P G w := by
  cases h with
  | cons h t => cases t with
    | cons h2 t => cases t; exact ⟨_, _, rfl, h, h2⟩
/-- len -/
theorem ee_lenL (F : Fb X N sc) (hm : X.mg "len" = none) (h : EE cl X W a Γ (.ok (aLst xs))) (he : starEach [a] X.env = (false, eval a X.env) :: starEach [] X.env := by rfl) (hg : sc.names.lookup ("len" : Str) = some .globalImplicit := by rfl) : EE cl X W (.Call (.Name "len" p) [a] [] pos) Γ (.ok (aInt (xs.length : Int))) :=
  ee_cB F call_len_seq hm (ea_cons h ea_nil he) (fun G H vs Q sb r po => by
    obtain ⟨v, rfl, q, ws, rfl, g, ar⟩ := are1 r
    exact ⟨q, ws, rfl, .inl (SqL.of (sb _ _ g)), by rw [are_len ar]; exact po _ G H (.refl sb) rfl⟩) (hg := hg) (he := he)
theorem ee_lenT (F : Fb X N sc) (hm : X.mg "len" = none) (h : EE cl X W a Γ (.ok (aTup xs))) (he : starEach [a] X.env = (false, eval a X.env) :: starEach [] X.env := by rfl) (hg : sc.names.lookup ("len" : Str) = some .globalImplicit := by rfl) : EE cl X W (.Call (.Name "len" p) [a] [] pos) Γ (.ok (aInt (xs.length : Int))) :=
  ee_cB F call_len_seq hm (ea_cons h ea_nil he) (fun G H vs Q sb r po => by
    obtain ⟨v, rfl, q, ws, rfl, g, ar⟩ := are1 r
    exact ⟨q, ws, rfl, .inr (SqT.of (sb _ _ g)), by rw [are_len ar]; exact po _ G H (.refl sb) rfl⟩) (hg := hg) (he := he)
theorem ee_lenScr (F : Fb X N sc) {ns : List Int} (hm : X.mg "len" = none) (h : EE cl X W a Γ (.ok (aScr X.K ns))) (he : starEach [a] X.env = (false, eval a X.env) :: starEach [] X.env := by rfl) (hg : sc.names.lookup ("len" : Str) = some .globalImplicit := by rfl) : EE cl X W (.Call (.Name "len" p) [a] [] pos) Γ (.ok (aInt (ns.length : Int))) :=
  ee_cB F call_len_seq hm (ea_cons h ea_nil he) (fun G H vs Q sb r po => by
    obtain ⟨v, rfl, pv⟩ := are1 r
    obtain ⟨q, rfl, g⟩ := (aScr X.K ns).mono sb pv
    exact ⟨q, _, rfl, .inl g, by rw [List.length_map]; exact po _ G H (.refl sb) rfl⟩) (hg := hg) (he := he)
theorem ee_lenOw (F : Fb X N sc) (i : Nat) {x : Str} {q : Pos} {m : Option Addr} (hm : X.mg "len" = none) (hΓ : Γ[i]? = some (.ow m (cLst xs))) (hN : N[i]? = some x := by rfl)
    (hv : Vis sc x := by first | exact Or.inl rfl | exact Or.inr (Or.inl rfl) | exact Or.inr (Or.inr rfl)) (hd : (x == ("__debug__" : Str)) = false := by decide) (hcd : (x == ("__classdict__" : Str)) = false := by decide) (hg : sc.names.lookup ("len" : Str) = some .globalImplicit := by rfl) :
    EE cl X W (.Call (.Name "len" p) [.Name x q] [] pos) Γ (.ok (aInt (xs.length : Int))) :=
  ee_pe (pe_callB call_len_seq (F.gl _ hg) hm (by decide +kernel) (pa_cons (pe_var (i := i) (by rw [F.nN]; exact hN) (F.vis x hv) hd hcd) pa_nil)) fun B σ G H Q en po => by
    obtain ⟨p, o, e, h1, ⟨vs, eo, r⟩, h3, h4⟩ := en.ow i _ _ hΓ
    subst eo
    exact ⟨_, e, p, vs, rfl, .inl (SqL.of h1), by rw [are_len r]; exact po _ G H (.refl en.gh) rfl⟩
section
variable {i j : Int}
theorem ee_max2 (F : Fc X W N sc k) (hm : X.mg "max" = none) (h : EE cl X W a Γ (.ok (aInt i))) (h2 : EE cl X W b Γ (.ok (aInt j))) (he : starEach [a, b] X.env = (false, eval a X.env) :: starEach [b] X.env := by rfl) (he2 : starEach [b] X.env = (false, eval b X.env) :: starEach [] X.env := by rfl) (hpl : (backTo pos (starEach [b] X.env)).any (·.1) = false := by rfl) (hg : sc.names.lookup ("max" : Str) = some .globalImplicit := by rfl) : EE cl X W (.Call (.Name "max" p) [a, b] [] pos) Γ (.ok (aInt (max i j))) :=
  ee_cB F.b (call_max2 F.calm) hm (ea_cons h (ea_cons h2 ea_nil he2) he) (fun G H vs Q sb r po => by
    obtain ⟨v, w, rfl, rfl, rfl⟩ := are2 r
    refine ⟨i, j, rfl, ?_⟩
    have e : (if j > i then j else i) = max i j := by rw [Int.max_def]; split <;> split <;> omega
    rw [e]
    exact po _ G H (.refl sb) rfl) (hg := hg) (he := he) (hpl := hpl)
theorem ee_min2 (F : Fc X W N sc k) (hm : X.mg "min" = none) (h : EE cl X W a Γ (.ok (aInt i))) (h2 : EE cl X W b Γ (.ok (aInt j))) (he : starEach [a, b] X.env = (false, eval a X.env) :: starEach [b] X.env := by rfl) (he2 : starEach [b] X.env = (false, eval b X.env) :: starEach [] X.env := by rfl) (hpl : (backTo pos (starEach [b] X.env)).any (·.1) = false := by rfl) (hg : sc.names.lookup ("min" : Str) = some .globalImplicit := by rfl) : EE cl X W (.Call (.Name "min" p) [a, b] [] pos) Γ (.ok (aInt (min i j))) :=
  ee_cB F.b (call_min2 F.calm) hm (ea_cons h (ea_cons h2 ea_nil he2) he) (fun G H vs Q sb r po => by
    obtain ⟨v, w, rfl, rfl, rfl⟩ := are2 r
    refine ⟨i, j, rfl, ?_⟩
    have e : (if j < i then j else i) = min i j := by rw [Int.min_def]; split <;> split <;> omega
    rw [e]
    exact po _ G H (.refl sb) rfl) (hg := hg) (he := he) (hpl := hpl)
theorem ee_intI (F : Fb X N sc) (hm : X.mg "int" = none) (h : EE cl X W a Γ (.ok (aInt i))) (he : starEach [a] X.env = (false, eval a X.env) :: starEach [] X.env := by rfl) (hg : sc.names.lookup ("int" : Str) = some .globalImplicit := by rfl) : EE cl X W (.Call (.Name "int" p) [a] [] pos) Γ (.ok (aInt i)) :=
  ee_cT F call_int1 hm (ea_cons h ea_nil he) (fun G H vs Q sb r po => by
    obtain ⟨v, rfl, rfl⟩ := are1 r
    exact .inl ⟨i, rfl, po _ G H (.refl sb) rfl⟩) (hg := hg) (he := he)
theorem ee_intB {t : Bool} (F : Fb X N sc) (hm : X.mg "int" = none) (h : EE cl X W a Γ (.ok (aBool t))) (he : starEach [a] X.env = (false, eval a X.env) :: starEach [] X.env := by rfl) (hg : sc.names.lookup ("int" : Str) = some .globalImplicit := by rfl) : EE cl X W (.Call (.Name "int" p) [a] [] pos) Γ (.ok (aInt (cond t 1 0))) :=
  ee_cT F call_int1 hm (ea_cons h ea_nil he) (fun G H vs Q sb r po => by
    obtain ⟨v, rfl, rfl⟩ := are1 r
    refine .inr ⟨t, rfl, ?_⟩
    have e : (if t then (1 : Int) else 0) = cond t 1 0 := by cases t <;> rfl
    rw [e]
    exact po _ G H (.refl sb) rfl) (hg := hg) (he := he)
theorem ee_absI (F : Fb X N sc) (hm : X.mg "abs" = none) (h : EE cl X W a Γ (.ok (aInt i))) (he : starEach [a] X.env = (false, eval a X.env) :: starEach [] X.env := by rfl) (hg : sc.names.lookup ("abs" : Str) = some .globalImplicit := by rfl) : EE cl X W (.Call (.Name "abs" p) [a] [] pos) Γ (.ok (aInt (if i < 0 then -i else i))) :=
  ee_cB F call_abs hm (ea_cons h ea_nil he) (fun G H vs Q sb r po => by
    obtain ⟨v, rfl, rfl⟩ := are1 r
    exact ⟨i, rfl, po _ G H (.refl sb) rfl⟩) (hg := hg) (he := he)
end
/-- isinstance against a built-in class, by the value's type -/
def TyA (a : A) (t : String) : Prop := ∀ (K : PySem.W.Frag) (G H : Hp) (v : V), Sub G H → a.P G v → TyX K H v (.type t)
theorem tyA_int {i : Int} : TyA (aInt i) "int" := fun K G H v sb e => by subst e; exact .base (.int i)
theorem tyA_bool {i : Bool} : TyA (aBool i) "bool" := fun K G H v sb e => by subst e; exact .base (.bl i)
theorem tyA_none : TyA aNone "NoneType" := fun K G H v sb e => by subst e; exact .base .non
theorem tyA_str {i : Str} : TyA (aStr i) "str" := fun K G H v sb e => by subst e; exact .base (.str i)
theorem ee_isi {T t : String} {r : Bool} (F : Fb X N sc) {x : Str} {q : Pos} (hm : X.mg "isinstance" = none) (hmT : X.mg x = none) (h : EE cl X W a Γ (.ok a1)) (ht : TyA a1 t) (hk : kitB t T = some r := by decide +kernel) (hv : bootBuiltins x = some (.type T) := by decide +kernel) (hn : x ≠ "__name__" := by decide) (hd : (x == ("__debug__" : Str)) = false := by decide)
    (he : starEach [a, .Name x q] X.env = (false, eval a X.env) :: starEach [.Name x q] X.env := by rfl) (hg : sc.names.lookup ("isinstance" : Str) = some .globalImplicit := by rfl) (hgx : sc.names.lookup x = some .globalImplicit := by rfl) :
    EE cl X W (.Call (.Name "isinstance" p) [a, .Name x q] [] pos) Γ (.ok (aBool r)) :=
  ee_cB F call_isi hm (ea_cons h (ea_cons (ee_c (pe_bltn (v := .ty T) (F.gl _ hgx) hmT hv rfl hn hd)) ea_nil) he) (fun G H vs Q sb rs po => by
    obtain ⟨v, w, rfl, p1, p2⟩ := are2 rs
    have p2' : w = .ty T := p2
    subst p2'
    exact ⟨v, .ty T, _, _, r, rfl, .ty T, ht _ G H v sb p1, kit_ty hk, po _ G H (.refl sb) rfl⟩) (hg := hg) (he := he)
/-- list(..), tuple(..) -/
theorem ee_listL (F : Fb X N sc) (hm : X.mg "list" = none) (h : EE cl X W a Γ (.ok (aLst xs))) (he : starEach [a] X.env = (false, eval a X.env) :: starEach [] X.env := by rfl) (hg : sc.names.lookup ("list" : Str) = some .globalImplicit := by rfl) : EE cl X W (.Call (.Name "list" p) [a] [] pos) Γ (.ok (aLst xs)) :=
  ee_cT F call_list_of hm (ea_cons h ea_nil he) (fun G H vs Q sb r po => by
    obtain ⟨v, rfl, q, ws, rfl, g, ar⟩ := are1 r
    exact ⟨q, ws, rfl, .inl (SqL.of (sb _ _ g)), fun l hl => po _ _ _ (.new sb hl) ⟨l, ws, rfl, upd_same, ar.mono (.ins (sb.fre hl))⟩⟩) (hg := hg) (he := he)
theorem ee_listT (F : Fb X N sc) (hm : X.mg "list" = none) (h : EE cl X W a Γ (.ok (aTup xs))) (he : starEach [a] X.env = (false, eval a X.env) :: starEach [] X.env := by rfl) (hg : sc.names.lookup ("list" : Str) = some .globalImplicit := by rfl) : EE cl X W (.Call (.Name "list" p) [a] [] pos) Γ (.ok (aLst xs)) :=
  ee_cT F call_list_of hm (ea_cons h ea_nil he) (fun G H vs Q sb r po => by
    obtain ⟨v, rfl, q, ws, rfl, g, ar⟩ := are1 r
    exact ⟨q, ws, rfl, .inr (SqT.of (sb _ _ g)), fun l hl => po _ _ _ (.new sb hl) ⟨l, ws, rfl, upd_same, ar.mono (.ins (sb.fre hl))⟩⟩) (hg := hg) (he := he)
theorem ee_tupL (F : Fb X N sc) (hm : X.mg "tuple" = none) (h : EE cl X W a Γ (.ok (aLst xs))) (he : starEach [a] X.env = (false, eval a X.env) :: starEach [] X.env := by rfl) (hg : sc.names.lookup ("tuple" : Str) = some .globalImplicit := by rfl) : EE cl X W (.Call (.Name "tuple" p) [a] [] pos) Γ (.ok (aTup xs)) :=
  ee_cT F call_tuple_of hm (ea_cons h ea_nil he) (fun G H vs Q sb r po => by
    obtain ⟨v, rfl, q, ws, rfl, g, ar⟩ := are1 r
    exact ⟨q, ws, rfl, .inl ⟨SqL.of (sb _ _ g), fun l hl => po _ _ _ (.new sb hl) ⟨l, ws, rfl, upd_same, ar.mono (.ins (sb.fre hl))⟩⟩⟩) (hg := hg) (he := he)
theorem ee_tupT (F : Fb X N sc) (hm : X.mg "tuple" = none) (h : EE cl X W a Γ (.ok (aTup xs))) (he : starEach [a] X.env = (false, eval a X.env) :: starEach [] X.env := by rfl) (hg : sc.names.lookup ("tuple" : Str) = some .globalImplicit := by rfl) : EE cl X W (.Call (.Name "tuple" p) [a] [] pos) Γ (.ok (aTup xs)) :=
  ee_cT F call_tuple_of hm (ea_cons h ea_nil he) (fun G H vs Q sb r po => by
    obtain ⟨v, rfl, q, ws, rfl, g, ar⟩ := are1 r
    exact ⟨q, ws, rfl, .inr ⟨SqT.of (sb _ _ g), po _ G H (.refl sb) ⟨q, ws, rfl, g, ar⟩⟩⟩) (hg := hg) (he := he)
theorem are_ints {G : Hp} : ∀ {ns : List Int} {vs : List V}, Are G (ns.map aInt) vs → vs = ns.map V.int
  | [], _, .nil => rfl
  | n :: ns, _, .cons h t => by rw [are_ints t, show _ = V.int n from h]; rfl
theorem are_bls {G : Hp} : ∀ {ns : List Bool} {vs : List V}, Are G (ns.map aBool) vs → vs = ns.map V.bl
  | [], _, .nil => rfl
  | n :: ns, _, .cons h t => by rw [are_bls t, show _ = V.bl n from h]; rfl
theorem ints_are {G : Hp} : ∀ (ns : List Int), Are G (ns.map aInt) (ns.map V.int)
  | [] => .nil
  | _ :: ns => .cons rfl (ints_are ns)
/-- sorted, max, min, any, all of a list -/
def sortI (ns : List Int) : List Int := ns.mergeSort (fun x y => decide (x ≤ y))
theorem sortI_eq {ns ms : List Int} (hp : ms.Perm ns) (hs : ms.Pairwise (· ≤ ·)) : ms = sortI ns := by
  refine List.Perm.eq_of_pairwise (fun x y _ _ h1 h2 => Int.le_antisymm h1 h2) hs ?_ (hp.trans (List.mergeSort_perm ns _).symm)
  have := List.pairwise_mergeSort (le := fun x y => decide (x ≤ y)) (fun a b c h1 h2 => by simp at *; omega) (fun a b => by simp; omega) ns
  exact this.imp fun h => of_decide_eq_true h
theorem ee_sortedI {ns : List Int} (F : Fb X N sc) (hm : X.mg "sorted" = none) (h : EE cl X W a Γ (.ok (aLst (ns.map aInt)))) (he : starEach [a] X.env = (false, eval a X.env) :: starEach [] X.env := by rfl) (hg : sc.names.lookup ("sorted" : Str) = some .globalImplicit := by rfl) : EE cl X W (.Call (.Name "sorted" p) [a] [] pos) Γ (.ok (aLst ((sortI ns).map aInt))) :=
  ee_cB F cr_sortedI hm (ea_cons h ea_nil he) (fun G H vs Q sb r po => by
    obtain ⟨v, rfl, q, ws, rfl, g, ar⟩ := are1 r
    have e := are_ints ar
    subst e
    refine ⟨q, ns, rfl, SqL.of (sb _ _ g), fun ms l hp hs hl => ?_⟩
    rw [sortI_eq hp hs]
    exact po _ _ _ (.new sb hl) ⟨l, _, rfl, upd_same, ints_are _⟩) (hg := hg) (he := he)
def maxL : List Int → R Int
  | [] => .bad
  | x :: l => .ok (l.foldl max x)
def minL : List Int → R Int
  | [] => .bad
  | x :: l => .ok (l.foldl min x)
theorem foldl_max : ∀ (l : List Int) (x : Int), x ≤ l.foldl max x ∧ (∀ y ∈ l, y ≤ l.foldl max x) ∧ (l.foldl max x = x ∨ l.foldl max x ∈ l)
  | [], x => ⟨Int.le_refl _, fun _ z => by simp at z, .inl rfl⟩
  | y :: l, x => by
    obtain ⟨h1, h2, h3⟩ := foldl_max l (max x y)
    refine ⟨by have := Int.le_max_left x y; exact Int.le_trans this h1, fun z hz => ?_, ?_⟩
    · rcases List.mem_cons.mp hz with q | q
      · subst q; exact Int.le_trans (Int.le_max_right x z) h1
      · exact h2 z q
    · rcases h3 with q | q
      · by_cases c : x ≤ y
        · refine .inr ?_
          show l.foldl max (max x y) ∈ y :: l
          rw [q, Int.max_eq_right c]; exact List.mem_cons_self
        · refine .inl ?_
          show l.foldl max (max x y) = x
          rw [q, Int.max_eq_left (by omega)]
      · exact .inr (List.mem_cons_of_mem _ q)
theorem foldl_min : ∀ (l : List Int) (x : Int), l.foldl min x ≤ x ∧ (∀ y ∈ l, l.foldl min x ≤ y) ∧ (l.foldl min x = x ∨ l.foldl min x ∈ l)
  | [], x => ⟨Int.le_refl _, fun _ z => by simp at z, .inl rfl⟩
  | y :: l, x => by
    obtain ⟨h1, h2, h3⟩ := foldl_min l (min x y)
    refine ⟨Int.le_trans h1 (Int.min_le_left x y), fun z hz => ?_, ?_⟩
    · rcases List.mem_cons.mp hz with q | q
      · subst q; exact Int.le_trans h1 (Int.min_le_right x z)
      · exact h2 z q
    · rcases h3 with q | q
      · by_cases c : x ≤ y
        · refine .inl ?_
          show l.foldl min (min x y) = x
          rw [q, Int.min_eq_left c]
        · refine .inr ?_
          show l.foldl min (min x y) ∈ y :: l
          rw [q, Int.min_eq_right (by omega)]; exact List.mem_cons_self
      · exact .inr (List.mem_cons_of_mem _ q)
theorem maxL_ok {ns : List Int} {m : Int} (h : maxL ns = .ok m) : m ∈ ns ∧ ∀ y ∈ ns, y ≤ m := by
  cases ns with
  | nil => cases h
  | cons x l =>
    cases h
    obtain ⟨h1, h2, h3⟩ := foldl_max l x
    refine ⟨?_, fun y hy => ?_⟩
    · rcases h3 with q | q
      · rw [q]; exact List.mem_cons_self
      · exact List.mem_cons_of_mem _ q
    · rcases List.mem_cons.mp hy with q | q
      · subst q; exact h1
      · exact h2 y q
theorem minL_ok {ns : List Int} {m : Int} (h : minL ns = .ok m) : m ∈ ns ∧ ∀ y ∈ ns, m ≤ y := by
  cases ns with
  | nil => cases h
  | cons x l =>
    cases h
    obtain ⟨h1, h2, h3⟩ := foldl_min l x
    refine ⟨?_, fun y hy => ?_⟩
    · rcases h3 with q | q
      · rw [q]; exact List.mem_cons_self
      · exact List.mem_cons_of_mem _ q
    · rcases List.mem_cons.mp hy with q | q
      · subst q; exact h1
      · exact h2 y q
theorem ee_maxL {ns : List Int} {m : Int} (F : Fc X W N sc k) (hm : X.mg "max" = none) (h : EE cl X W a Γ (.ok (aLst (ns.map aInt)))) (hr : maxL ns = .ok m) (he : starEach [a] X.env = (false, eval a X.env) :: starEach [] X.env := by rfl) (hg : sc.names.lookup ("max" : Str) = some .globalImplicit := by rfl) : EE cl X W (.Call (.Name "max" p) [a] [] pos) Γ (.ok (aInt m)) :=
  ee_cB F.b (cr_max F.calm) hm (ea_cons h ea_nil he) (fun G H vs Q sb r po => by
    obtain ⟨v, rfl, q, ws, rfl, g, ar⟩ := are1 r
    have e := are_ints ar
    subst e
    obtain ⟨m1, m2⟩ := maxL_ok hr
    refine ⟨q, ns, rfl, SqL.of (sb _ _ g), List.length_pos_of_mem m1, fun z hz hle => ?_⟩
    rw [Int.le_antisymm (m2 z hz) (hle m m1)]
    exact po _ G H (.refl sb) rfl) (hg := hg) (he := he)
theorem ee_minL {ns : List Int} {m : Int} (F : Fc X W N sc k) (hm : X.mg "min" = none) (h : EE cl X W a Γ (.ok (aLst (ns.map aInt)))) (hr : minL ns = .ok m) (he : starEach [a] X.env = (false, eval a X.env) :: starEach [] X.env := by rfl) (hg : sc.names.lookup ("min" : Str) = some .globalImplicit := by rfl) : EE cl X W (.Call (.Name "min" p) [a] [] pos) Γ (.ok (aInt m)) :=
  ee_cB F.b (cr_min F.calm) hm (ea_cons h ea_nil he) (fun G H vs Q sb r po => by
    obtain ⟨v, rfl, q, ws, rfl, g, ar⟩ := are1 r
    have e := are_ints ar
    subst e
    obtain ⟨m1, m2⟩ := minL_ok hr
    refine ⟨q, ns, rfl, SqL.of (sb _ _ g), List.length_pos_of_mem m1, fun z hz hle => ?_⟩
    rw [Int.le_antisymm (hle m m1) (m2 z hz)]
    exact po _ G H (.refl sb) rfl) (hg := hg) (he := he)
theorem ee_all {bs : List Bool} (F : Fc X W N sc k) (hm : X.mg "all" = none) (h : EE cl X W a Γ (.ok (aLst (bs.map aBool)))) (he : starEach [a] X.env = (false, eval a X.env) :: starEach [] X.env := by rfl) (hg : sc.names.lookup ("all" : Str) = some .globalImplicit := by rfl) : EE cl X W (.Call (.Name "all" p) [a] [] pos) Γ (.ok (aBool (bs.all id))) :=
  ee_cB F.b (cr_all F.calm) hm (ea_cons h ea_nil he) (fun G H vs Q sb r po => by
    obtain ⟨v, rfl, q, ws, rfl, g, ar⟩ := are1 r
    have e := are_bls ar
    subst e
    exact ⟨q, bs, rfl, SqL.of (sb _ _ g), po _ G H (.refl sb) rfl⟩) (hg := hg) (he := he)
theorem ee_anyL {bs : List Bool} (F : Fc X W N sc k) (hm : X.mg "any" = none) (h : EE cl X W a Γ (.ok (aLst (bs.map aBool)))) (he : starEach [a] X.env = (false, eval a X.env) :: starEach [] X.env := by rfl) (hg : sc.names.lookup ("any" : Str) = some .globalImplicit := by rfl) : EE cl X W (.Call (.Name "any" p) [a] [] pos) Γ (.ok (aBool (bs.any id))) :=
  ee_cB F.b (cr_any F.calm) hm (ea_cons h ea_nil he) (fun G H vs Q sb r po => by
    obtain ⟨v, rfl, q, ws, rfl, g, ar⟩ := are1 r
    have e := are_bls ar
    subst e
    exact ⟨q, bs, rfl, SqL.of (sb _ _ g), po _ G H (.refl sb) rfl⟩) (hg := hg) (he := he)
/-- xs + ys, xs * n -/
theorem are_app {G : Hp} : ∀ {as bs : List A} {vs ws : List V}, Are G as vs → Are G bs ws → Are G (as ++ bs) (vs ++ ws)
  | _, _, _, _, .nil, h => h
  | _, _, _, _, .cons h t, h2 => .cons h (are_app t h2)
theorem ee_cat (h : EE cl X W a Γ (.ok (aLst xs))) (h2 : EE cl X W b Γ (.ok (aLst ys))) (hl : xs.length + ys.length ≤ 16777216) : EE cl X W (.BinOp a .Add b pos) Γ (.ok (aLst (xs ++ ys))) :=
  ee_bin op_cat h h2 fun G H u v Q sb ⟨q, vs, e, g, r⟩ ⟨q2, ws, e2, g2, r2⟩ po => ⟨q, q2, vs, ws, e, e2, sb _ _ g, sb _ _ g2, by rw [are_len r, are_len r2]; exact small_line hl, fun l hl => po _ _ _ (.new sb hl) ⟨l, _, rfl, upd_same, are_app (r.mono (.ins (sb.fre hl))) (r2.mono (.ins (sb.fre hl)))⟩⟩
def repL {α : Type} (n : Nat) (xs : List α) : List α := (List.replicate n xs).flatten
theorem are_rep {G : Hp} {as : List A} {vs : List V} (r : Are G as vs) : ∀ n, Are G (repL n as) (repL n vs)
  | 0 => .nil
  | n + 1 => by
    show Are G (List.replicate (n + 1) as).flatten (List.replicate (n + 1) vs).flatten
    rw [List.replicate_succ, List.replicate_succ, List.flatten_cons, List.flatten_cons]
    exact are_app r (are_rep r n)
theorem ee_rep {n : Int} (h : EE cl X W a Γ (.ok (aLst xs))) (h2 : EE cl X W b Γ (.ok (aInt n))) (hn : n < 16777216 ∧ -16777216 ≤ n) (hl : xs.length * n.toNat ≤ 16777216) : EE cl X W (.BinOp a .Mult b pos) Γ (.ok (aLst (repL n.toNat xs))) :=
  ee_bin op_rep h h2 fun G H u v Q sb ⟨q, vs, e, g, r⟩ e2 po => ⟨q, n, vs, e, e2, sb _ _ g, by omega, by omega, by rw [are_len r]; exact small_line hl, fun l hl => po _ _ _ (.new sb hl) ⟨l, _, rfl, upd_same, (are_rep r n.toNat).mono (.ins (sb.fre hl))⟩⟩

/-! ### == of data -/
/-- what a value is as plain data -/
def DpA (a : A) (d : PyData) : Prop := ∀ (K : PySem.W.Frag) (G H : Hp) (v : V), Sub G H → a.P G v → Dp K H v d
/-- a kind of data that == tells apart as Lean does -/
structure Cod {α : Type} (f : α → A) where
  py : α → PyData
  dp : ∀ x, DpA (f x) (py x)
  lay : ∀ x, (py x).canLay0 = true
  dep : Nat
  hdep : ∀ x, (py x).depth ≤ dep
  eq : ∀ x y, PyData.eqv (py x) (py y) = true ↔ x = y
theorem eqv_false {α : Type} {f : α → A} (c : Cod f) {x y : α} [Decidable (x = y)] : PyData.eqv (c.py x) (c.py y) = decide (x = y) := by
  by_cases h : x = y
  · rw [decide_eq_true h]; exact (c.eq x y).mpr h
  · rw [decide_eq_false h]
    cases e : PyData.eqv (c.py x) (c.py y) with
    | false => rfl
    | true => exact absurd ((c.eq x y).mp e) h
theorem shaped_cod {α : Type} {f : α → A} (c : Cod f) (hc : c.dep ≤ 64) (x : α) : SeqAt.shaped (c.py x) = true := by
  unfold SeqAt.shaped
  rw [c.lay x, decide_eq_true (Nat.le_trans (c.hdep x) hc)]; rfl
def codInt : Cod aInt := ⟨.int, fun i K G H v sb e => by rw [show v = .int i from e]; exact .int i, fun _ => rfl, 0, fun _ => Nat.le_refl _, fun x y => by simp [PyData.eqv]⟩
def codBool : Cod aBool := ⟨.bool, fun i K G H v sb e => by rw [show v = .bl i from e]; exact .bl i, fun _ => rfl, 0, fun _ => Nat.le_refl _, fun x y => by simp [PyData.eqv]⟩
/-- data whose form is not None -/
def NotN {α : Type} {f : α → A} (c : Cod f) : Prop := ∀ x, PyData.eqv .none (c.py x) = false ∧ PyData.eqv (c.py x) .none = false
theorem notN_int : NotN codInt := fun _ => ⟨rfl, rfl⟩
theorem notN_bool : NotN codBool := fun _ => ⟨rfl, rfl⟩
def codOpt {α : Type} {f : α → A} (c : Cod f) (h : NotN c) : Cod (aOpt f) where
  py := fun o => match o with
    | none => .none
    | some x => c.py x
  dp := fun o => match o with
    | none => fun K G H v sb e => by rw [show v = .non from e]; exact .non
    | some x => c.dp x
  lay := fun o => match o with
    | none => rfl
    | some x => c.lay x
  dep := c.dep
  hdep := fun o => match o with
    | none => Nat.zero_le _
    | some x => c.hdep x
  eq := fun o u => match o, u with
    | none, none => by simp [PyData.eqv]
    | none, some y => by simp [(h y).1]
    | some x, none => by simp [(h x).2]
    | some x, some y => by rw [Option.some.injEq]; exact c.eq x y
theorem dpAll_of {α : Type} {f : α → A} (c : Cod f) {K : PySem.W.Frag} {G H : Hp} (sb : Sub G H) : ∀ {xs : List α} {vs : List V}, Are G (xs.map f) vs → DpAll K H vs (xs.map c.py)
  | [], _, .nil => .nil
  | x :: xs, _, .cons h t => .cons (c.dp x K G H _ sb h) (dpAll_of c sb t)
theorem layAll_of {α : Type} {f : α → A} (c : Cod f) : ∀ xs : List α, PyData.canLayAll0 (xs.map c.py) = true
  | [] => rfl
  | x :: xs => by rw [List.map_cons, PyData.canLayAll0, c.lay x, layAll_of c xs]; rfl
theorem depAll_of {α : Type} {f : α → A} (c : Cod f) : ∀ xs : List α, PyData.depthAll (xs.map c.py) ≤ c.dep
  | [] => Nat.zero_le _
  | x :: xs => by rw [List.map_cons, PyData.depthAll]; exact Nat.max_le.mpr ⟨c.hdep x, depAll_of c xs⟩
theorem eqAll_of {α : Type} {f : α → A} (c : Cod f) : ∀ xs ys : List α, PyData.eqvAll (xs.map c.py) (ys.map c.py) = true ↔ xs = ys
  | [], [] => by simp [PyData.eqvAll]
  | [], _ :: _ => by simp [PyData.eqvAll]
  | _ :: _, [] => by simp [PyData.eqvAll]
  | x :: xs, y :: ys => by rw [List.map_cons, List.map_cons, PyData.eqvAll, Bool.and_eq_true, c.eq x y, eqAll_of c xs ys, List.cons.injEq]
def codLst {α : Type} {f : α → A} (c : Cod f) : Cod (fun xs : List α => aLst (xs.map f)) where
  py := fun xs => .list (xs.map c.py)
  dp := fun xs K G H v sb ⟨p, vs, e, g, r⟩ => by subst e; exact .lst (SqL.of (sb _ _ g)) (dpAll_of c sb r)
  lay := fun xs => by rw [PyData.canLay0]; exact layAll_of c xs
  dep := c.dep + 1
  hdep := fun xs => by rw [PyData.depth]; exact Nat.succ_le_succ (depAll_of c xs)
  eq := fun xs ys => by rw [PyData.eqv]; exact eqAll_of c xs ys
theorem notN_lst {α : Type} {f : α → A} {c : Cod f} : NotN (codLst c) := fun _ => ⟨rfl, rfl⟩
/-- several places, each of its kind -/
structure CodS {α : Type} (f : α → List A) where
  py : α → List PyData
  dp : ∀ x (K : PySem.W.Frag) (G H : Hp) (vs : List V), Sub G H → Are G (f x) vs → DpAll K H vs (py x)
  lay : ∀ x, PyData.canLayAll0 (py x) = true
  dep : Nat
  hdep : ∀ x, PyData.depthAll (py x) ≤ dep
  eq : ∀ x y, PyData.eqvAll (py x) (py y) = true ↔ x = y
def codS1 {α : Type} {f : α → A} (c : Cod f) : CodS (fun x : α => [f x]) where
  py := fun x => [c.py x]
  dp := fun x K G H vs sb r => by
    obtain ⟨v, rfl, h⟩ := are1 r
    exact .cons (c.dp x K G H v sb h) .nil
  lay := fun x => by simp [PyData.canLayAll0, c.lay x]
  dep := c.dep
  hdep := fun x => by simp only [PyData.depthAll]; exact Nat.max_le.mpr ⟨c.hdep x, Nat.zero_le _⟩
  eq := fun x y => by simp [PyData.eqvAll, c.eq x y]
def codSc {α β : Type} {f : α → A} {g : β → List A} (c : Cod f) (d : CodS g) : CodS (fun x : α × β => f x.1 :: g x.2) where
  py := fun x => c.py x.1 :: d.py x.2
  dp := fun x K G H vs sb r => by
    cases r with
    | cons h t => exact .cons (c.dp x.1 K G H _ sb h) (d.dp x.2 K G H _ sb t)
  lay := fun x => by rw [PyData.canLayAll0, c.lay, d.lay]; rfl
  dep := max c.dep d.dep
  hdep := fun x => by
    rw [PyData.depthAll]
    exact Nat.max_le.mpr ⟨Nat.le_trans (c.hdep _) (Nat.le_max_left _ _), Nat.le_trans (d.hdep _) (Nat.le_max_right _ _)⟩
  eq := fun x y => by
    rw [PyData.eqvAll, Bool.and_eq_true, c.eq, d.eq]
    exact ⟨fun h => Prod.ext h.1 h.2, fun h => by rw [h]; exact ⟨rfl, rfl⟩⟩
def codTup {α : Type} {f : α → List A} (c : CodS f) : Cod (fun x : α => aTup (f x)) where
  py := fun x => .tuple (c.py x)
  dp := fun x K G H v sb ⟨p, vs, e, g, r⟩ => by subst e; exact .tup (SqT.of (sb _ _ g)) (c.dp x K G H vs sb r)
  lay := fun x => by rw [PyData.canLay0]; exact c.lay x
  dep := c.dep + 1
  hdep := fun x => by rw [PyData.depth]; exact Nat.succ_le_succ (c.hdep x)
  eq := fun x y => by rw [PyData.eqv]; exact c.eq x y
def codFix {α : Type} {f : α → List A} (c : CodS f) : Cod (fun x : α => aLst (f x)) where
  py := fun x => .list (c.py x)
  dp := fun x K G H v sb ⟨p, vs, e, g, r⟩ => by subst e; exact .lst (SqL.of (sb _ _ g)) (c.dp x K G H vs sb r)
  lay := fun x => by rw [PyData.canLay0]; exact c.lay x
  dep := c.dep + 1
  hdep := fun x => by rw [PyData.depth]; exact Nat.succ_le_succ (c.hdep x)
  eq := fun x y => by rw [PyData.eqv]; exact c.eq x y
theorem notN_tup {α : Type} {f : α → List A} {c : CodS f} : NotN (codTup c) := fun _ => ⟨rfl, rfl⟩
theorem notN_fix {α : Type} {f : α → List A} {c : CodS f} : NotN (codFix c) := fun _ => ⟨rfl, rfl⟩
theorem opA_eqD {α : Type} {f : α → A} {K : PySem.W.Frag} (cd : Cod f) (hc : cd.dep ≤ 64) {x y : α} [Decidable (x = y)] : OpA (rEqD K) (f x) (f y) (aBool (decide (x = y))) := fun G H u v Q sb hx hy po =>
  ⟨cd.py x, cd.py y, cd.dp x _ G H u sb hx, cd.dp y _ G H v sb hy, shaped_cod cd hc x, shaped_cod cd hc y, by rw [eqv_false cd]; exact po _ G H (.refl sb) rfl⟩
theorem opA_neD {α : Type} {f : α → A} {K : PySem.W.Frag} (cd : Cod f) (hc : cd.dep ≤ 64) {x y : α} [Decidable (x = y)] : OpA (rNeD K) (f x) (f y) (aBool (!decide (x = y))) := fun G H u v Q sb hx hy po =>
  ⟨cd.py x, cd.py y, cd.dp x _ G H u sb hx, cd.dp y _ G H v sb hy, shaped_cod cd hc x, shaped_cod cd hc y, by rw [eqv_false cd]; exact po _ G H (.refl sb) rfl⟩
section
variable {α : Type} {f : α → A} {x y : α} [Decidable (x = y)]
theorem ee_eqD (F : Fc X W N sc k) (cd : Cod f) (ha : EE cl X W a Γ (.ok (f x))) (hb : EE cl X W b Γ (.ok (f y))) (hc : cd.dep ≤ 64 := by decide) : EE cl X W (.Compare a [.Eq] [b] pos) Γ (.ok (aBool (decide (x = y)))) := ee_cmp (op_eqD F.room.units) ha hb (opA_eqD cd hc) (nomark _)
theorem ee_neD (F : Fc X W N sc k) (cd : Cod f) (ha : EE cl X W a Γ (.ok (f x))) (hb : EE cl X W b Γ (.ok (f y))) (hc : cd.dep ≤ 64 := by decide) : EE cl X W (.Compare a [.NotEq] [b] pos) Γ (.ok (aBool (!decide (x = y)))) := ee_cmp (op_neD F.room.units) ha hb (opA_neD cd hc) (nomark _)
theorem td_eqD (F : Fc X W N sc k) (cd : Cod f) (ha : EE cl X W a Γ (.ok (f x))) (hb : EE cl X W b Γ (.ok (f y))) (hc : cd.dep ≤ 64 := by decide) : TD cl X W (.Compare a [.Eq] [b] pos) Γ (.ok (decide (x = y))) := td_cmp (op_eqD F.room.units) ha hb (opA_eqD cd hc) (nomark _)
theorem td_neD (F : Fc X W N sc k) (cd : Cod f) (ha : EE cl X W a Γ (.ok (f x))) (hb : EE cl X W b Γ (.ok (f y))) (hc : cd.dep ≤ 64 := by decide) : TD cl X W (.Compare a [.NotEq] [b] pos) Γ (.ok (!decide (x = y))) := td_cmp (op_neD F.room.units) ha hb (opA_neD cd hc) (nomark _)
end
/-- i in xs, ints -/
theorem inV_ints {i : Int} : ∀ ns : List Int, inV (.int i) (ns.map V.int) = decide (i ∈ ns)
  | [] => rfl
  | n :: ns => by
    have ih := inV_ints (i := i) ns
    unfold inV at ih ⊢
    rw [List.map_cons, List.any_cons, ih]
    have e : eqV (.int n) (.int i) = decide (i = n) := by
      by_cases h : i = n
      · subst h; simp [eqV]
      · rw [decide_eq_false h]; simp [eqV]; exact fun z => h z.symm
    rw [e]
    by_cases h : i = n
    · simp [h]
    · simp [h]
theorem all_flat_ints (ns : List Int) : (ns.map V.int).all flatV = true := by rw [List.all_map]; exact List.all_eq_true.mpr fun _ _ => rfl
theorem opA_inI {K : PySem.W.Frag} {i : Int} {ns : List Int} : OpA (rIn K false) (aInt i) (aLst (ns.map aInt)) (aBool (decide (i ∈ ns))) := fun G H u v Q sb hx ⟨q, vs, e, g, r⟩ po => by
  have e2 := are_ints r
  subst e2 hx
  refine ⟨q, _, e, .inl (SqL.of (sb _ _ g)), rfl, all_flat_ints ns, ?_⟩
  show Q (.bl (inV (.int i) (ns.map V.int))) H
  rw [inV_ints]; exact po _ G H (.refl sb) rfl
theorem opA_niI {K : PySem.W.Frag} {i : Int} {ns : List Int} : OpA (rIn K true) (aInt i) (aLst (ns.map aInt)) (aBool (!decide (i ∈ ns))) := fun G H u v Q sb hx ⟨q, vs, e, g, r⟩ po => by
  have e2 := are_ints r
  subst e2 hx
  refine ⟨q, _, e, .inl (SqL.of (sb _ _ g)), rfl, all_flat_ints ns, ?_⟩
  show Q (.bl (!inV (.int i) (ns.map V.int))) H
  rw [inV_ints]; exact po _ G H (.refl sb) rfl
theorem td_inI {i : Int} {ns : List Int} (ha : EE cl X W a Γ (.ok (aInt i))) (hb : EE cl X W b Γ (.ok (aLst (ns.map aInt)))) (hm : behindInMarks .In b = false := by rfl) : TD cl X W (.Compare a [.In] [b] pos) Γ (.ok (decide (i ∈ ns))) := td_cmp op_in_seq ha hb opA_inI hm
theorem td_niI {i : Int} {ns : List Int} (ha : EE cl X W a Γ (.ok (aInt i))) (hb : EE cl X W b Γ (.ok (aLst (ns.map aInt)))) (hm : behindInMarks .NotIn b = false := by rfl) : TD cl X W (.Compare a [.NotIn] [b] pos) Γ (.ok (!decide (i ∈ ns))) := td_cmp op_notIn_seq ha hb opA_niI hm
/-- .. in an own list of ints -/
theorem td_niOw (F : Fb X N sc) (s : Nat) {i : Int} {ns : List Int} {x : Str} {q : Pos} {m : Option Addr} (ha : EE cl X W a Γ (.ok (aInt i))) (hΓ : Γ[s]? = some (.ow m (cLst (ns.map aInt)))) (hN : N[s]? = some x := by rfl)
    (hv : Vis sc x := by first | exact Or.inl rfl | exact Or.inr (Or.inl rfl) | exact Or.inr (Or.inr rfl)) (hd : (x == ("__debug__" : Str)) = false := by decide) (hcd : (x == ("__classdict__" : Str)) = false := by decide) (hm : behindInMarks .NotIn (.Name x q) = false := by rfl) :
    TD cl X W (.Compare a [.NotIn] [.Name x q] pos) Γ (.ok (!decide (i ∈ ns))) :=
  td_pt (pt_cmpR op_notIn_seq pe_self (pe_var (i := s) (by rw [F.nN]; exact hN) (F.vis x hv) hd hcd) hm) fun B σ G H Q en po => ha B σ G H _ en fun v G' H' st pv => by
    obtain ⟨p, o, e, h1, ⟨vs, eo, r⟩, h3, h4⟩ := (en.step st).ow s _ _ hΓ
    have e2 := are_ints r
    subst eo e2 pv
    refine ⟨_, e, p, _, rfl, .inl (SqL.of h1), rfl, all_flat_ints ns, _, rfl, ?_⟩
    show Q (!inV (.int i) (ns.map V.int)) H'
    rw [inV_ints]; exact po G' H' st
end
/-! ### what may be lacking -/
def idxR {α : Type} (xs : List α) (i : Int) : R α := match atI xs i with
  | some x => .ok x
  | none => .bad
theorem idxR_ok {α : Type} {xs : List α} {i : Int} {x : α} (h : idxR xs i = .ok x) : atI xs i = some x := by
  unfold idxR at h
  cases e : atI xs i with
  | none => rw [e] at h; cases h
  | some y => rw [e] at h; cases h; rfl
def gd (c : Bool) : R Unit := cond c (.ok ()) .bad
theorem gd_ok {c : Prop} [Decidable c] {u : Unit} (h : gd (decide c) = .ok u) : c := by
  by_cases q : c
  · exact q
  · rw [decide_eq_false q] at h; cases h
def optR {α : Type} : Option α → R α
  | some x => .ok x
  | none => .bad
theorem optR_ok {α : Type} {o : Option α} {x : α} (h : optR o = .ok x) : o = some x := by
  cases o with
  | none => cases h
  | some y => cases h; rfl
end SK

set_option Elab.async false
set_option linter.all false
set_option maxRecDepth 100000
set_option maxHeartbeats 2000000
/-! P7: small rules that the printed proofs use. -/
namespace SK
open PySem L2
/-- a value under a name -/
def letR {α β : Type} (v : α) (f : α → β) : β := f v
def RngS (lo hi : Int) : Prop := (-4611686018427387904 ≤ lo ∧ lo < 4611686018427387904 ∧ -4611686018427387904 ≤ hi ∧ hi < 4611686018427387904) ∧ hi - lo ≤ 16777216
instance {lo hi : Int} : Decidable (RngS lo hi) := by unfold RngS; infer_instance
theorem RngS.r {lo hi : Int} (h : RngS lo hi) : RngOk lo hi := by unfold RngS at h; unfold RngOk; omega
theorem RngS.s {lo hi : Int} (h : RngS lo hi) {bd : Bool} : bd = true → hi - lo ≤ 16777216 := fun _ => h.2
theorem RngS.s0 {hi : Int} (h : RngS 0 hi) {bd : Bool} : bd = true → hi ≤ 16777216 := fun _ => by have := h.2; omega
instance {i j : Int} : Decidable (CMul i j) := by unfold CMul; infer_instance
instance {i j : Int} : Decidable (CDiv i j) := by unfold CDiv; infer_instance
instance {i j : Int} : Decidable (CPow i j) := by unfold CPow; infer_instance
section
variable {cl : Er → Addr} {X : Cx} {W : WX} {N : List Str} {sc : Scope} {k : Nat} {Γ : List Sl} {pos p : Pos} {a b c e : Expr} {es rest : List Expr} {xs ys : List A} {a1 a2 : A}
theorem ee_optAt {α : Type} {f : α → A} {o : Option α} {x : α} (h : optR o = .ok x) (he : EE cl X W e Γ (.ok (aOpt f o))) : EE cl X W e Γ (.ok (f x)) := by
  rw [optR_ok h] at he; exact he
theorem ee_eq {a a' : A} (h : EE cl X W e Γ (.ok a)) (q : a = a') : EE cl X W e Γ (.ok a') := q ▸ h
theorem ee_okR {α : Type} {f : α → A} {r : R α} {v : α} (h : EE cl X W e Γ (r.map f)) (q : r = .ok v) : EE cl X W e Γ (.ok (f v)) := ee_at h q
theorem ee_slT (n : Nat) {lo hi : Option Expr} {l u : Option Int} {p2 : Pos} (ha : EE cl X W a Γ (.ok (aTup xs))) (hl : EO cl X W lo Γ l) (hh : EO cl X W hi Γ u) (hc : cutL xs l u = ys := by rfl) (hx : xs.length = n := by rfl) (hw : ¬ (HT.sIx n 0 l = 0 ∧ HT.sIx n n u = n) := by decide) : EE cl X W (.Subscript a (.Slice lo hi none p2) pos) Γ (.ok (aTup ys)) := by
  subst hc
  obtain ⟨tl, pl, el⟩ := hl
  obtain ⟨th, ph, eh⟩ := hh
  refine ee_pe (pe_slice sl_tup pe_self pl ph) fun B σ G H Q en po => ha B σ G H _ en fun v G1 H1 s1 p1 => el B σ G1 H1 _ (en.step s1) fun G2 H2 s2 => eh B σ G2 H2 _ (en.step (s1.trans s2)) fun G3 H3 s3 => ?_
  obtain ⟨p, vs, e, g, r⟩ := p1
  refine ⟨p, vs, e, SqT.of (s3.hh _ _ (s2.hh _ _ (s1.gh _ _ g))), by rw [are_len r, hx]; exact hw, fun q hq => po _ _ _ (((s1.trans s2).trans s3).trans (.new s3.gh hq)) ⟨q, _, rfl, upd_same, are_cut (r.mono ((s2.gg.trans s3.gg).trans (.ins (s3.gh.fre hq)))) l u⟩⟩
theorem ee_slLm {α : Type} {f : α → A} {zs : List α} {lo hi : Option Expr} {l u : Option Int} {p2 : Pos} (ha : EE cl X W a Γ (.ok (aLst (zs.map f)))) (hl : EO cl X W lo Γ l) (hh : EO cl X W hi Γ u) : EE cl X W (.Subscript a (.Slice lo hi none p2) pos) Γ (.ok (aLst ((cutL zs l u).map f))) := by
  have := ee_slL (pos := pos) (p2 := p2) ha hl hh
  rw [cutL_map] at this; exact this
theorem ee_catM {α : Type} {f : α → A} {xs ys : List α} (h : EE cl X W a Γ (.ok (aLst (xs.map f)))) (h2 : EE cl X W b Γ (.ok (aLst (ys.map f)))) (hl : xs.length + ys.length ≤ 16777216) : EE cl X W (.BinOp a .Add b pos) Γ (.ok (aLst ((xs ++ ys).map f))) := by
  have := ee_cat (pos := pos) h h2 (by rw [List.length_map, List.length_map]; exact hl)
  rw [← List.map_append] at this; exact this
theorem ee_repM {α : Type} {f : α → A} {xs : List α} {n : Int} (h : EE cl X W a Γ (.ok (aLst (xs.map f)))) (h2 : EE cl X W b Γ (.ok (aInt n))) (hn : n < 16777216 ∧ -16777216 ≤ n) (hl : xs.length * n.toNat ≤ 16777216) : EE cl X W (.BinOp a .Mult b pos) Γ (.ok (aLst ((repL n.toNat xs).map f))) := by
  have := ee_rep (pos := pos) h h2 hn (by rw [List.length_map]; exact hl)
  have e : repL n.toNat (xs.map f) = (repL n.toNat xs).map f := by unfold repL; rw [List.map_flatten, List.map_replicate]
  rw [e] at this; exact this
theorem ee_ixLm {α : Type} {f : α → A} {zs : List α} {i : Int} {x : α} (ha : EE cl X W a Γ (.ok (aLst (zs.map f)))) (hb : EE cl X W b Γ (.ok (aInt i))) (h : idxR zs i = .ok x) (hs : PlainIx b := by intro _ _; rfl) : EE cl X W (.Subscript a b pos) Γ (.ok (f x)) :=
  ee_ixL ha hb (atI_map (idxR_ok h)) hs
theorem ee_ixOwm {α : Type} {f : α → A} {zs : List α} {i : Int} {z : α} (F : Fb X N sc) (s : Nat) {x : Str} {o : Option Addr} (hΓ : Γ[s]? = some (.ow o (cLst (zs.map f)))) (hb : EE cl X W b Γ (.ok (aInt i))) (h : idxR zs i = .ok z) (hN : N[s]? = some x := by rfl)
    (hv : Vis sc x := by first | exact Or.inl rfl | exact Or.inr (Or.inl rfl) | exact Or.inr (Or.inr rfl)) (hd : (x == ("__debug__" : Str)) = false := by decide) (hcd : (x == ("__classdict__" : Str)) = false := by decide) {q : Pos} (hs : PlainIx b := by intro _ _; rfl) :
    EE cl X W (.Subscript (.Name x q) b pos) Γ (.ok (f z)) := ee_ixOw F s hΓ hb (atI_map (idxR_ok h)) hN hv hd hcd hs
theorem ee_ixScrR {ns : List Int} {i z : Int} (ha : EE cl X W a Γ (.ok (aScr X.K ns))) (hb : EE cl X W b Γ (.ok (aInt i))) (h : idxR ns i = .ok z) (hs : PlainIx b := by intro _ _; rfl) : EE cl X W (.Subscript a b pos) Γ (.ok (aInt z)) := ee_ixScr ha hb (idxR_ok h) hs
theorem ee_lenLm (F : Fb X N sc) {α : Type} {f : α → A} {zs : List α} (hm : X.mg "len" = none) (h : EE cl X W a Γ (.ok (aLst (zs.map f)))) (he : starEach [a] X.env = (false, eval a X.env) :: starEach [] X.env := by rfl) (hg : sc.names.lookup ("len" : Str) = some .globalImplicit := by rfl) : EE cl X W (.Call (.Name "len" p) [a] [] pos) Γ (.ok (aInt (zs.length : Int))) := by
  have := ee_lenL (pos := pos) (p := p) F hm h he hg
  rw [List.length_map] at this; exact this
theorem ee_lenTk (F : Fb X N sc) {i : Int} (hm : X.mg "len" = none) (h : EE cl X W a Γ (.ok (aTup xs))) (hi : (xs.length : Int) = i := by rfl) (he : starEach [a] X.env = (false, eval a X.env) :: starEach [] X.env := by rfl) (hg : sc.names.lookup ("len" : Str) = some .globalImplicit := by rfl) : EE cl X W (.Call (.Name "len" p) [a] [] pos) Γ (.ok (aInt i)) := by
  have := ee_lenT (pos := pos) (p := p) F hm h he hg
  rw [hi] at this; exact this
theorem ee_lenLk (F : Fb X N sc) {i : Int} (hm : X.mg "len" = none) (h : EE cl X W a Γ (.ok (aLst xs))) (hi : (xs.length : Int) = i := by rfl) (he : starEach [a] X.env = (false, eval a X.env) :: starEach [] X.env := by rfl) (hg : sc.names.lookup ("len" : Str) = some .globalImplicit := by rfl) : EE cl X W (.Call (.Name "len" p) [a] [] pos) Γ (.ok (aInt i)) := by
  have := ee_lenL (pos := pos) (p := p) F hm h he hg
  rw [hi] at this; exact this
theorem ee_lenOwm (F : Fb X N sc) (i : Nat) {α : Type} {f : α → A} {zs : List α} {x : Str} {q : Pos} {m : Option Addr} (hm : X.mg "len" = none) (hΓ : Γ[i]? = some (.ow m (cLst (zs.map f)))) (hN : N[i]? = some x := by rfl)
    (hv : Vis sc x := by first | exact Or.inl rfl | exact Or.inr (Or.inl rfl) | exact Or.inr (Or.inr rfl)) (hd : (x == ("__debug__" : Str)) = false := by decide) (hcd : (x == ("__classdict__" : Str)) = false := by decide) (hg : sc.names.lookup ("len" : Str) = some .globalImplicit := by rfl) :
    EE cl X W (.Call (.Name "len" p) [.Name x q] [] pos) Γ (.ok (aInt (zs.length : Int))) := by
  have := ee_lenOw (cl := cl) (W := W) (pos := pos) (p := p) (q := q) F i hm hΓ hN hv hd hcd hg
  rw [List.length_map] at this; exact this
section
variable {s t : Bool}
theorem ee_isB (ha : EE cl X W a Γ (.ok (aBool s))) (hb : EE cl X W b Γ (.ok (aBool t))) : EE cl X W (.Compare a [.Is] [b] pos) Γ (.ok (aBool (decide (s = t)))) := ee_cmp op_isBl ha hb (fun G H u v Q sb hx hy po => ⟨s, t, hx, hy, po _ G H (.refl sb) rfl⟩) (nomark _)
theorem ee_isNotB (ha : EE cl X W a Γ (.ok (aBool s))) (hb : EE cl X W b Γ (.ok (aBool t))) : EE cl X W (.Compare a [.IsNot] [b] pos) Γ (.ok (aBool (!decide (s = t)))) := ee_cmp op_notBl ha hb (fun G H u v Q sb hx hy po => ⟨s, t, hx, hy, po _ G H (.refl sb) rfl⟩) (nomark _)
theorem td_isB (ha : EE cl X W a Γ (.ok (aBool s))) (hb : EE cl X W b Γ (.ok (aBool t))) : TD cl X W (.Compare a [.Is] [b] pos) Γ (.ok (decide (s = t))) := td_cmp op_isBl ha hb (fun G H u v Q sb hx hy po => ⟨s, t, hx, hy, po _ G H (.refl sb) rfl⟩) (nomark _)
theorem td_isNotB (ha : EE cl X W a Γ (.ok (aBool s))) (hb : EE cl X W b Γ (.ok (aBool t))) : TD cl X W (.Compare a [.IsNot] [b] pos) Γ (.ok (!decide (s = t))) := td_cmp op_notBl ha hb (fun G H u v Q sb hx hy po => ⟨s, t, hx, hy, po _ G H (.refl sb) rfl⟩) (nomark _)
/-- and, or of plain truth values -/
theorem tdw_andP (ha : TD cl X W a Γ (.ok s)) (hb : s = true → TDw cl X W (.BoolOp .And (b :: rest) pos) Γ (.ok t)) : TDw cl X W (.BoolOp .And (a :: b :: rest) pos) Γ (.ok (s && t)) := by
  have := tdw_and (pos := pos) ha hb
  cases s with
  | true => exact this
  | false => exact this
theorem tdw_orP (ha : TD cl X W a Γ (.ok s)) (hb : s = false → TDw cl X W (.BoolOp .Or (b :: rest) pos) Γ (.ok t)) : TDw cl X W (.BoolOp .Or (a :: b :: rest) pos) Γ (.ok (s || t)) := by
  have := tdw_or (pos := pos) ha hb
  cases s with
  | true => exact this
  | false => exact this
theorem ee_andP (ha : EE cl X W a Γ (.ok (aBool s))) (hb : s = true → EE cl X W (.BoolOp .And (b :: rest) pos) Γ (.ok (aBool t))) : EE cl X W (.BoolOp .And (a :: b :: rest) pos) Γ (.ok (aBool (s && t))) := by
  have := ee_and (pos := pos) ha hb
  cases s with
  | true => exact this
  | false => exact this
theorem ee_orP (ha : EE cl X W a Γ (.ok (aBool s))) (hb : s = false → EE cl X W (.BoolOp .Or (b :: rest) pos) Γ (.ok (aBool t))) : EE cl X W (.BoolOp .Or (a :: b :: rest) pos) Γ (.ok (aBool (s || t))) := by
  have := ee_or (pos := pos) ha hb
  cases s with
  | true => exact this
  | false => exact this
end
/-- values that may be lacking in a later part -/
theorem ee_andR {s : Bool} {r : R Bool} (ha : EE cl X W a Γ (.ok (aBool s))) (hb : s = true → EE cl X W (.BoolOp .And (b :: rest) pos) Γ (r.map aBool)) : EE cl X W (.BoolOp .And (a :: b :: rest) pos) Γ ((cond s r (.ok false)).map aBool) := by
  have := ee_and (pos := pos) ha hb
  cases s with
  | true => exact this
  | false => exact this
theorem ee_orR {s : Bool} {r : R Bool} (ha : EE cl X W a Γ (.ok (aBool s))) (hb : s = false → EE cl X W (.BoolOp .Or (b :: rest) pos) Γ (r.map aBool)) : EE cl X W (.BoolOp .Or (a :: b :: rest) pos) Γ ((cond s (.ok true) r).map aBool) := by
  have := ee_or (pos := pos) ha hb
  cases s with
  | true => exact this
  | false => exact this
theorem ee_needM {α β : Type} {f : β → A} {r : R α} {m : α → R β} (h : ∀ v, r = .ok v → EE cl X W e Γ ((m v).map f)) : EE cl X W e Γ ((r.need m).map f) := by
  cases r with
  | ok v => exact h v rfl
  | ex _ => exact ee_bad
  | bad => exact ee_bad
theorem ee_ifP {α : Type} {f : α → A} {t : Bool} {x y : α} (hc : TD cl X W c Γ (.ok t)) (ha : t = true → EE cl X W a Γ (.ok (f x))) (hb : t = false → EE cl X W b Γ (.ok (f y))) : EE cl X W (.IfExp c a b pos) Γ (.ok (f (cond t x y))) := by
  have := ee_ifExp (pos := pos) hc ha hb
  cases t with
  | true => exact this
  | false => exact this
variable {rs : List Stmt} {K : List (List Stmt)} {o : Out}
theorem sk_setL {α M : Type} {f : α → A} {v : α} {m : α → M} (C : M → Out) (F : Fb X N sc) (i : Nat) {x : Str} {pos' : Pos} (he : EE cl X W e Γ (.ok (f v))) (h : ∀ z, z = v → SK cl X W rs K (Γ.set i (.im (f z))) (C (m z))) (hN : N[i]? = some x := by rfl) (hv : Loc sc x := by first | exact Or.inl rfl | exact Or.inr rfl) (hs : swapsWith e (some (.Name x pos')) pos.line X.env = pure false := by rfl) :
    SK cl X W (.Assign [.Name x pos'] e pos :: rs) K Γ (C (letR v m)) := sk_set F i he (h v rfl) hN hv hs
theorem sk_ifC {M : Type} (C : M → Out) {x y : List Stmt} {t : Bool} {m m' : M} (hc : TD cl X W c Γ (.ok t)) (hx : t = true → SK cl X W x (rs :: K) Γ (C m)) (hy : t = false → SK cl X W y (rs :: K) Γ (C m')) : SK cl X W (.If c x y pos :: rs) K Γ (C (cond t m m')) :=
  sk_one (ps_if pt_self pss_self pss_self) fun B D σ G H en po => hc B σ G H _ en fun G' H' st => by
    cases t with
    | true => exact hx rfl B D σ G' H' (en.step st) po
    | false => exact hy rfl B D σ G' H' (en.step st) po
theorem sk_newLm {α : Type} {f : α → A} {zs : List α} (F : Fb X N sc) (i : Nat) {x : Str} {pos' p2 : Pos} (he : EA cl X W es Γ (zs.map f)) (h : SK cl X W rs K (Γ.set i (.ow none (cLst (zs.map f)))) o) (hN : N[i]? = some x := by rfl) (hv : Loc sc x := by first | exact Or.inl rfl | exact Or.inr rfl) (hl : zs.length ≤ 16777216 := by exact Nat.le_of_ble_eq_true rfl) (hs : swapsWith (.List es p2) (some (.Name x pos')) pos.line X.env = pure false := by rfl) :
    SK cl X W (.Assign [.Name x pos'] (.List es p2) pos :: rs) K Γ o := sk_newL F i he h hN hv (by rw [List.length_map]; exact hl) hs
theorem sk_appL {α M : Type} {f : α → A} {zs : List α} {z : α} {m : List α → M} (C : M → Out) (F : Fb X N sc) (i : Nat) {x : Str} {ad : Option Addr} {p1 p2 : Pos} {pl : Pos} (hi : Γ[i]? = some (.ow ad (cLst (zs.map f)))) (he : EE cl X W e Γ (.ok (f z))) (hl : zs.length < 16777216) (h : ∀ us, us = zs ++ [z] → SK cl X W rs K (Γ.set i (.ow ad (cLst (us.map f)))) (C (m us))) (hN : N[i]? = some x := by rfl)
    (hv : Vis sc x := by first | exact Or.inl rfl | exact Or.inr (Or.inl rfl) | exact Or.inr (Or.inr rfl)) (hd : (x == ("__debug__" : Str)) = false := by decide) (hcd : (x == ("__classdict__" : Str)) = false := by decide) (hst : starEach [e] X.env = (false, eval e X.env) :: starEach [] X.env := by rfl)
    (hps : ∀ {to : TE} {t : TA}, PE X (.Name x p1) to → PA X [e] t → PS X (.Expr (.Call (.Attribute (.Name x p1) "append" p2) [e] [] pl) pos) (tDrop (tBM X.K "list" rAppend to t)) := by intro to t h1 h2; exact ps_expr (pe_bm PySem.F.plainAttrs_list PySem.F.slot_list_append PySem.F.type_list_append mt_append h1 h2)) :
    SK cl X W (.Expr (.Call (.Attribute (.Name x p1) "append" p2) [e] [] pl) pos :: rs) K Γ (C (letR (zs ++ [z]) m)) := by
  have := h _ rfl
  rw [List.map_append] at this
  exact sk_app F i hi he (by rw [List.length_map]; exact hl) this hN hv hd hcd hst hps
end
section
variable {cl : Er → Addr} {X : Cx} {W : WX} {N : List Str} {sc : Scope} {k : Nat} {Γ : List Sl} {pos p : Pos} {a b c e : Expr} {es rest : List Expr} {rs : List Stmt} {K : List (List Stmt)}
theorem sk_retRb {α U : Type} {φ : U → Out} {ret : α → U} {f : α → A} {r : R α} (he : EE cl X W e Γ (r.map f)) (hr : ∀ v, φ (ret v) = .rt (f v) := by intro _; rfl) : SK cl X W (.Return (some e) pos :: rs) K Γ (cv φ (r.bind fun v => .ok (ret v))) := by
  cases r with
  | ok v =>
    have q : cv φ ((R.ok v).bind fun v => .ok (ret v)) = .rt (f v) := hr v
    rw [q]; exact sk_ret he
  | ex x => exact sk_one (ps_ret pe_self) fun B D σ G H en po => he B σ G H _ en fun d G' H' st p => po d σ G' H' (en.step st).any p
  | bad => exact sk_bad
theorem td_notR {r : R Bool} (h : TD cl X W a Γ r) : TD cl X W (.UnaryOp .Not a pos) Γ (r.need fun b => .ok (!b)) := by
  cases r with
  | ok b => exact td_not h
  | ex _ => exact td_bad
  | bad => exact td_bad
theorem tdw_bad : TDw cl X W a Γ .bad := fun _ _ _ _ _ _ h => False.elim h
theorem tdw_andG {r1 r : R Bool} (ha : TD cl X W a Γ r1) (hb : r1 = .ok true → TDw cl X W (.BoolOp .And (b :: rest) pos) Γ r) : TDw cl X W (.BoolOp .And (a :: b :: rest) pos) Γ (r1.need fun t => cond t r (.ok false)) := by
  cases r1 with
  | ok t => exact tdw_and ha fun q => hb (by rw [q])
  | ex _ => exact tdw_bad
  | bad => exact tdw_bad
theorem tdw_orG {r1 r : R Bool} (ha : TD cl X W a Γ r1) (hb : r1 = .ok false → TDw cl X W (.BoolOp .Or (b :: rest) pos) Γ r) : TDw cl X W (.BoolOp .Or (a :: b :: rest) pos) Γ (r1.need fun t => cond t (.ok true) r) := by
  cases r1 with
  | ok t => exact tdw_or ha fun q => hb (by rw [q])
  | ex _ => exact tdw_bad
  | bad => exact tdw_bad
end
/-- the names of the error classes in a text -/
theorem erp_none {er : Er} (h : ∀ n, er ≠ .line n) (H : Hp) : ErP er none H := by
  cases er with
  | line n => exact absurd rfl (h n)
  | _ => rfl
end SK

set_option Elab.async false
set_option linter.all false
set_option maxRecDepth 100000
set_option maxHeartbeats 2000000
/-! P8: more rules that the printed proofs use. -/
namespace SK
open PySem L2
section
variable {cl : Er → Addr} {X : Cx} {W : WX} {N : List Str} {sc : Scope} {k : Nat} {Γ : List Sl} {pos p : Pos} {a b c e elt tg it : Expr} {es rest : List Expr} {rs : List Stmt} {K : List (List Stmt)} {scope : Scope}
theorem ee_globE (F : Fb X N sc) {x : Str} {v : V} (h : ∃ u, X.mg x = some u ∧ RelV v u) (hg : sc.names.lookup x = some .globalImplicit := by rfl) (hd : (x == ("__debug__" : Str)) = false := by decide) : EE cl X W (.Name x pos) Γ (.ok (aV v)) := by
  obtain ⟨u, hm, r⟩ := h
  exact ee_glob F hm r hg hd
theorem truA_lstm {α : Type} {f : α → A} {zs : List α} : TruA (aLst (zs.map f)) (!zs.isEmpty) := by
  have := truA_lst (xs := zs.map f)
  cases zs with
  | nil => exact this
  | cons _ _ => exact this
theorem ixN_pre {n m : Nat} {i : Int} {j : Nat} (hi : 0 ≤ i) (h : ixN n i = some j) : ixN (n + m) i = some j := by
  unfold ixN at h ⊢
  rw [if_pos hi] at h ⊢
  by_cases q : i < (n : Int)
  · rw [if_pos q] at h; rw [if_pos (by omega)]; exact h
  · rw [if_neg q] at h; cases h
theorem atI_pre {α : Type} {f : α → A} {ys : List A} {zs : List α} {i : Int} {x : α} (hi : 0 ≤ i) (h : atI zs i = some x) : atI (zs.map f ++ ys) i = some (f x) := by
  unfold atI at h ⊢
  cases e : ixN zs.length i with
  | none => rw [e] at h; cases h
  | some j =>
    rw [e] at h
    have h' : zs[j]? = some x := h
    rw [List.length_append, List.length_map, ixN_pre hi e]
    show (zs.map f ++ ys)[j]? = _
    have hj : j < zs.length := (List.getElem?_eq_some_iff.mp h').1
    rw [List.getElem?_append_left (by rw [List.length_map]; exact hj), List.getElem?_map, h']; rfl
theorem b01 (t : Bool) : -(2 ^ 64) < cond t (1 : Int) 0 ∧ cond t (1 : Int) 0 < 2 ^ 64 := by cases t <;> decide
theorem ee_makeM {α : Type} {f : α → List (Str × A)} {x : Str} {C : Addr} {j n : Nat} {ps : List Str} {I : List A → R (List (Str × A)) → Prop} {as : List A} {r : R α} (F : Fc X W N sc k) (g : MaX X x C j ps (spIni cl n C I)) (ha : EA cl X W (a :: es) Γ as) (hI : I as (r.map f)) (hj : j + 1 ≤ k := by decide) (hn : as.length = n := by rfl)
    (hg : sc.names.lookup x = some .globalImplicit := by rfl) (hd : (x == ("__debug__" : Str)) = false := by decide) (he : starEach (a :: es) X.env = (false, eval a X.env) :: starEach es X.env := by rfl) (hpl : (backTo pos (starEach es X.env)).any (·.1) = false := by rfl) :
    EE cl X W (.Call (.Name x p) (a :: es) [] pos) Γ (r.map fun v => aIns C (f v)) := by
  have := ee_make (p := p) (pos := pos) F g ha hI hj hn hg hd he hpl
  cases r with
  | ok v => exact this
  | ex e => exact this
  | bad => exact this
theorem cv_map {α T : Type} {φ : T → Out} {f : α → T} : ∀ r : R α, cv φ (r.map f) = cv (fun x => φ (f x)) r
  | .ok _ => rfl
  | .ex _ => rfl
  | .bad => rfl
theorem ee_lcMm {α β : Type} {l : List α} {emb : α → A} {g : β → A} {out : α → β} {Γb : α → List Sl} {js : List Nat} (F : Fc X W N sc k) (hsc : X.env.scope = sc) (own : List (Str × Nat)) (hi : EI cl X W tg it Γ (l.map emb) true)
    (hg : ∀ s H0 C c fp x, x ∈ l → GA (X.blk s H0 scope (compEnvC scope c C X.env) fp) tg (wipeG Γ (own.map (·.2))) (emb x) (Γb x) js)
    (he : ∀ s H0 C c fp x, x ∈ l → EE cl (X.blk s H0 scope (compEnvC scope c C X.env) fp) Wno elt (Γb x) (.ok (g (out x))))
    (hblk : blkC N sc scope own = true := by decide +kernel) (hj : ∀ j ∈ js, j ∈ own.map (·.2) := by decide) (hs : ∀ x, foldedSetIterable it X.env x = pure x := by intro _; rfl) :
    EE cl X W (.ListComp elt [⟨tg, it, [], 0⟩] scope pos) Γ (.ok (aLst ((l.map out).map g))) := by
  rw [List.map_map]
  exact ee_lcM F hsc own hi hg he hblk hj hs
theorem sk_lcMm {α β : Type} {l : List α} {emb : α → A} {g : β → A} {out : α → β} {Γb : α → List Sl} {js : List Nat} {o : Out} {py spos : Pos} {y : Str} (F : Fc X W N sc k) (hsc : X.env.scope = sc) (i : Nat) (own : List (Str × Nat)) (hi : EI cl X W tg it Γ (l.map emb) true)
    (hg : ∀ s H0 C c fp x, x ∈ l → GA (X.blk s H0 scope (compEnvC scope c C X.env) fp) tg (wipeG Γ (own.map (·.2))) (emb x) (Γb x) js)
    (he : ∀ s H0 C c fp x, x ∈ l → EE cl (X.blk s H0 scope (compEnvC scope c C X.env) fp) Wno elt (Γb x) (.ok (g (out x))))
    (h : SK cl X W rs K (Γ.set i (.im (aLst ((l.map out).map g)))) o) (hN : N[i]? = some y := by rfl) (hv : sc.names.lookup y = some .local := by rfl) (hkd : sc.kind = .function := by rfl) (hl : (py.line == pos.line) = true := by rfl) (hlin : spos.line = pos.line := by rfl)
    (ha : (scope.names.any fun (n, k) => n == y && (k == .local || k == .cell)) = false := by decide +kernel)
    (hblk : blkC N sc scope own = true := by decide +kernel) (hj : ∀ j ∈ js, j ∈ own.map (·.2) := by decide) (hs : ∀ x, foldedSetIterable it X.env x = pure x := by intro _; rfl) :
    SK cl X W (.Assign [.Name y py] (.ListComp elt [⟨tg, it, [], 0⟩] scope pos) spos :: rs) K Γ o := by
  rw [List.map_map] at h
  exact sk_lcM F hsc i own hi hg he h hN hv hkd hl hlin ha hblk hj hs
theorem ee_lcFm {α β : Type} {l : List α} {emb : α → A} {g : β → A} {out : α → β} {cnd : α → Bool} {Γb : α → List Sl} {js : List Nat} {tst : Expr} (F : Fc X W N sc k) (hsc : X.env.scope = sc) (own : List (Str × Nat)) (hi : EI cl X W tg it Γ (l.map emb) true)
    (hg : ∀ s H0 C c fp x, x ∈ l → GA (X.blk s H0 scope (compEnvC scope c C X.env) fp) tg (wipeG Γ (own.map (·.2))) (emb x) (Γb x) js)
    (ht : ∀ s H0 C c fp x, x ∈ l → TD cl (X.blk s H0 scope (compEnvC scope c C X.env) fp) Wno tst (Γb x) (.ok (cnd x)))
    (he : ∀ s H0 C c fp x, x ∈ l → cnd x = true → EE cl (X.blk s H0 scope (compEnvC scope c C X.env) fp) Wno elt (Γb x) (.ok (g (out x))))
    (hblk : blkC N sc scope own = true := by decide +kernel) (hj : ∀ j ∈ js, j ∈ own.map (·.2) := by decide) (hs : ∀ x, foldedSetIterable it X.env x = pure x := by intro _; rfl) :
    EE cl X W (.ListComp elt [⟨tg, it, [tst], 0⟩] scope pos) Γ (.ok (aLst (((l.filter cnd).map out).map g))) := by
  rw [List.map_map]
  exact ee_lcF F hsc own hi hg ht he hblk hj hs
theorem sk_lcFm {α β : Type} {l : List α} {emb : α → A} {g : β → A} {out : α → β} {cnd : α → Bool} {Γb : α → List Sl} {js : List Nat} {tst : Expr} {o : Out} {py spos : Pos} {y : Str} (F : Fc X W N sc k) (hsc : X.env.scope = sc) (i : Nat) (own : List (Str × Nat)) (hi : EI cl X W tg it Γ (l.map emb) true)
    (hg : ∀ s H0 C c fp x, x ∈ l → GA (X.blk s H0 scope (compEnvC scope c C X.env) fp) tg (wipeG Γ (own.map (·.2))) (emb x) (Γb x) js)
    (ht : ∀ s H0 C c fp x, x ∈ l → TD cl (X.blk s H0 scope (compEnvC scope c C X.env) fp) Wno tst (Γb x) (.ok (cnd x)))
    (he : ∀ s H0 C c fp x, x ∈ l → cnd x = true → EE cl (X.blk s H0 scope (compEnvC scope c C X.env) fp) Wno elt (Γb x) (.ok (g (out x))))
    (h : SK cl X W rs K (Γ.set i (.im (aLst (((l.filter cnd).map out).map g)))) o) (hN : N[i]? = some y := by rfl) (hv : sc.names.lookup y = some .local := by rfl) (hkd : sc.kind = .function := by rfl) (hl : (py.line == pos.line) = true := by rfl) (hlin : spos.line = pos.line := by rfl)
    (ha : (scope.names.any fun (n, k) => n == y && (k == .local || k == .cell)) = false := by decide +kernel)
    (hblk : blkC N sc scope own = true := by decide +kernel) (hj : ∀ j ∈ js, j ∈ own.map (·.2) := by decide) (hs : ∀ x, foldedSetIterable it X.env x = pure x := by intro _; rfl) :
    SK cl X W (.Assign [.Name y py] (.ListComp elt [⟨tg, it, [tst], 0⟩] scope pos) spos :: rs) K Γ o := by
  rw [List.map_map] at h
  exact sk_lcF F hsc i own hi hg ht he h hN hv hkd hl hlin ha hblk hj hs
variable {np pos' : Pos} {body suite : List Stmt} {x : Str} {b0 : Stmt}
/-- try .. except C: whose suite reads no slot -/
theorem sk_try0 {S T U : Type} {φ : U → Out} {ψ : T → A} {ret : T → U} {m : S → R U} {r : R (LT S T)} {ct : Er → Bool} {f : Er → R (LT S T)} {cv0 : Value} (F : Fc X W N sc k) (Γs : S → List Sl) (hst : X.stack = X.env :: X.outer) (hf : X.env.frame = some X.env.locals) (hc : Names X x cv0) (hm : ∀ e, r = .ex e → PySem.W.exmOne X.K (.ref (cl e)) cv0 = some (ct e))
    (hb : ∀ pn xe (W' : WX), Fc (X.tr pn xe) W' N sc k → SK cl (X.tr pn xe) W' body [] Γ (cv (lt Γs ψ) r))
    (hsu : ∀ (a : Addr) (oe : Obj) (pn : List (Addr × Obj)) e, r = .ex e → ct e = true → Fb (X.suite a ((a, oe) :: pn)) N sc → SK cl (X.suite a ((a, oe) :: pn)) Wno (b0 :: suite) [] [] (cv (lt Γs ψ) (f e)))
    (hk : ∀ s, SK cl X W rs K (Γs s) (cv φ (m s))) (hr : ∀ t, φ (ret t) = .rt (ψ t) := by intro _; rfl) :
    SK cl X W (.Try body [.ExceptHandler (some (.Name x np)) none (b0 :: suite) pos'] [] [] pos :: rs) K Γ (cv φ ((catchR r ct f).then ret m)) :=
  sk_try F Γs hst hf hc hm hb [] (fun pn xe W' F' e q => by have := hb pn xe W' F'; rw [q] at this; exact this) hsu hk hr
end
/-- an __init__, its fields a record -/
theorem ini_bodyM {cl : Er → Addr} {P : Program} {w : World} {K : PySem.W.Frag} {mg : Str → Option Value} {base : Heap} {x qual : Str} {st : Stmt} {f : Addr} {fd : FuncData} {N ps : List Str} {sc : Scope} {j n : Nat} {C : Addr} {ι α : Type} {g : α → List (Str × A)} {args : ι → List A} {r : ι → R α} {pre : ι → Prop}
    (F : Fun K x qual st f fd) (S : FnScope N ps (defScope st)) (hn : ps.length = n + 1) (hsc : defScope st = sc)
    (hb : ∀ (cdv : Value) (A' : Around) (outer : List Env) (s : Shared) (H : Hp) (E : XK) (p : Addr), Fc (cxOf (L2.CX P w) P w K mg base N qual (defScope st) f cdv A' outer s H E) (fun cls d _ H' => E cls d H') N sc j → ∀ i, pre i →
      SK cl (cxOf (L2.CX P w) P w K mg base N qual (defScope st) f cdv A' outer s H E) (fun cls d _ H' => E cls d H') (defBody st) [] (.ow (some p) (cIns C []) :: gam (N.length - 1) (args i)) (cv (fun fs => .nx [.ow (some p) (cIns C (g fs))]) (r i))) :
    FnOk P w K mg base (L2.CX P w) (j + 1) f fd ps (spIni cl n C (fun as o => ∃ i, pre i ∧ as = args i ∧ o = (r i).map g)) :=
  ini_body F S hn hsc fun cdv A' outer s H E p Fc as o ⟨i, hp, ha, ho⟩ _ => by
    subst ha ho
    rw [cv_map]
    exact hb cdv A' outer s H E p Fc i hp
/-- exmOne by its parts -/
theorem exm_of {K : PySem.W.Frag} {S C : Addr} {b : Bool} (h1 : PySem.W.subIn K (.ref S) (.type "BaseException") = some true) (h2 : PySem.W.isClsIn K C = true) (h3 : PySem.W.typeIn K (.ref C) = some (.type "type")) (h0 : PySem.W.subIn K (.ref C) (.type "BaseException") = some true) (h4 : PySem.W.subIn K (.ref S) (.ref C) = some b) :
    PySem.W.exmOne K (.ref S) (.ref C) = some b := by
  have e1 : (PySem.W.subIn K (.ref C) (.type "BaseException") == some true) = true := by rw [h0] <;> rfl
  have e2 : ((PySem.W.clsIn K C).isSome && PySem.W.typeIn K (.ref C) == some (.type "type")) = true := by
    have h2' : (PySem.W.clsIn K C).isSome = true := h2
    rw [h2', h3] <;> rfl
  show (if (PySem.W.subIn K (.ref C) (.type "BaseException") == some true) = true then (if ((PySem.W.clsIn K C).isSome && PySem.W.typeIn K (.ref C) == some (.type "type")) = true then PySem.W.subIn K (.ref S) (.ref C) else none) else none) = some b
  rw [if_pos e1, if_pos e2]
  exact h4
end SK

set_option Elab.async false
set_option linter.all false
set_option maxRecDepth 100000
set_option maxHeartbeats 2000000
/-! Q0: plain lemmas about mirrors. -/
namespace SK
open PySem L2
variable {α β γ S T U : Type}
@[simp] theorem need_ok (x : α) (f : α → R β) : (R.ok x).need f = f x := rfl
@[simp] theorem need_bad (f : α → R β) : (R.bad : R α).need f = .bad := rfl
@[simp] theorem bind_ok (x : α) (f : α → R β) : (R.ok x).bind f = f x := rfl
@[simp] theorem bind_ex (e : Er) (f : α → R β) : (R.ex e : R α).bind f = .ex e := rfl
@[simp] theorem bind_bad (f : α → R β) : (R.bad : R α).bind f = .bad := rfl
@[simp] theorem map_ok (x : α) (f : α → β) : (R.ok x).map f = .ok (f x) := rfl
@[simp] theorem letR_eq (x : α) (f : α → β) : letR x f = f x := rfl
@[simp] theorem after_nx (s : S) (ret : T → U) (k : S → R U) : (R.ok (LO.nx s) : R (LO S T)).after ret k = k s := rfl
@[simp] theorem after_bk (s : S) (ret : T → U) (k : S → R U) : (R.ok (LO.bk s) : R (LO S T)).after ret k = k s := rfl
@[simp] theorem after_rt (t : T) (ret : T → U) (k : S → R U) : (R.ok (LO.rt t) : R (LO S T)).after ret k = .ok (ret t) := rfl
@[simp] theorem after_ex (e : Er) (ret : T → U) (k : S → R U) : (R.ex e : R (LO S T)).after ret k = .ex e := rfl
@[simp] theorem then_nx (s : S) (ret : T → U) (k : S → R U) : (R.ok (LT.nx s) : R (LT S T)).then ret k = k s := rfl
@[simp] theorem then_rt (t : T) (ret : T → U) (k : S → R U) : (R.ok (LT.rt t) : R (LT S T)).then ret k = .ok (ret t) := rfl
@[simp] theorem then_ex (e : Er) (ret : T → U) (k : S → R U) : (R.ex e : R (LT S T)).then ret k = .ex e := rfl
@[simp] theorem catch_ok (v : LT S T) (c : Er → Bool) (f : Er → R (LT S T)) : catchR (.ok v) c f = .ok v := rfl
theorem catch_ex (e : Er) (c : Er → Bool) (f : Er → R (LT S T)) : catchR (.ex e) c f = cond (c e) ((f e).need .ok) (.ex e) := rfl
@[simp] theorem optR_some (x : α) : optR (some x) = .ok x := rfl
theorem gd_true {c : Prop} [Decidable c] (h : c) : gd (decide c) = .ok () := by rw [decide_eq_true h]; rfl
theorem cond_t {b : Bool} {x y : α} (h : b = true) : cond b x y = x := by rw [h]; rfl
theorem cond_f {b : Bool} {x y : α} (h : b = false) : cond b x y = y := by rw [h]; rfl
/-- a place in a list -/
theorem idxR_nat {l : List α} {i : Nat} {x : α} (h : l[i]? = some x) : idxR l (i : Int) = .ok x := by unfold idxR; rw [atI_nat h]
theorem idxR_int {l : List α} {i : Int} {x : α} (h0 : 0 ≤ i) (h : l[i.toNat]? = some x) : idxR l i = .ok x := by
  have e : i = ((i.toNat : Nat) : Int) := by omega
  rw [e]; exact idxR_nat h
theorem idxR_get {l : List α} {i : Int} (h0 : 0 ≤ i) (h : i.toNat < l.length) : idxR l i = .ok l[i.toNat] := idxR_int h0 (by simp [h])
/-- items of a range -/
theorem mem_rangeL {lo hi x : Int} : x ∈ rangeL lo hi ↔ lo ≤ x ∧ x < hi := by
  unfold rangeL
  rw [List.mem_map]
  constructor
  · rintro ⟨i, h, rfl⟩
    have := List.mem_range.mp h
    omega
  · rintro ⟨h1, h2⟩
    exact ⟨(x - lo).toNat, List.mem_range.mpr (by omega), by omega⟩
/-- loops that never leave -/
theorem loopR_inv (P : S → Prop) {f : S → α → R (LO S T)} : ∀ {l : List α} {s0 : S}, (∀ s x, x ∈ l → P s → ∃ s', f s x = .ok (.nx s') ∧ P s') → P s0 → ∃ s', loopR f s0 l = .ok (.nx s') ∧ P s'
  | [], s0, _, p => ⟨s0, rfl, p⟩
  | x :: l, s0, h, p => by
    obtain ⟨s1, e, p1⟩ := h s0 x List.mem_cons_self p
    obtain ⟨s2, e2, p2⟩ := loopR_inv P (l := l) (s0 := s1) (fun s y hy => h s y (List.mem_cons_of_mem _ hy)) p1
    refine ⟨s2, ?_, p2⟩
    show (match f s0 x with
      | .ok (.nx s') => loopR f s' l
      | .ok (.ct s') => loopR f s' l
      | .ok (.bk s') => .ok (.bk s')
      | .ok (.rt t) => .ok (.rt t)
      | .ex e => .ex e
      | .bad => .bad) = _
    rw [e]; exact e2
/-- with the prefix that is done -/
theorem loopR_pre (P : List α → S → Prop) {f : S → α → R (LO S T)} : ∀ {l done : List α} {s0 : S}, (∀ d s x r, done ++ l = d ++ x :: r → P d s → ∃ s', f s x = .ok (.nx s') ∧ P (d ++ [x]) s') → P done s0 → ∃ s', loopR f s0 l = .ok (.nx s') ∧ P (done ++ l) s'
  | [], done, s0, _, p => ⟨s0, rfl, by rw [List.append_nil]; exact p⟩
  | x :: l, done, s0, h, p => by
    obtain ⟨s1, e, p1⟩ := h done s0 x l rfl p
    obtain ⟨s2, e2, p2⟩ := loopR_pre P (l := l) (done := done ++ [x]) (s0 := s1) (fun d s y r hr => h d s y r (by rw [← hr, List.append_assoc]; rfl)) p1
    refine ⟨s2, ?_, by rw [List.append_assoc] at p2; exact p2⟩
    show (match f s0 x with
      | .ok (.nx s') => loopR f s' l
      | .ok (.ct s') => loopR f s' l
      | .ok (.bk s') => .ok (.bk s')
      | .ok (.rt t) => .ok (.rt t)
      | .ex e => .ex e
      | .bad => .bad) = _
    rw [e]; exact e2
theorem loopR_unit {f : Unit → α → R (LO Unit T)} {l : List α} (h : ∀ x, x ∈ l → f () x = .ok (.nx ())) : loopR f () l = .ok (.nx ()) := by
  obtain ⟨s, e, _⟩ := loopR_inv (fun _ => True) (l := l) (s0 := ()) (fun s x hx _ => ⟨(), h x hx, trivial⟩) trivial
  exact e
/-- a loop that is a fold -/
theorem loopR_fold (g : S → α → S) (P : S → Prop) {f : S → α → R (LO S T)} : ∀ {l : List α} {s0 : S}, (∀ s x, x ∈ l → P s → f s x = .ok (.nx (g s x)) ∧ P (g s x)) → P s0 → loopR f s0 l = .ok (.nx (l.foldl g s0))
  | [], s0, _, p => rfl
  | x :: l, s0, h, p => by
    obtain ⟨e, p1⟩ := h s0 x List.mem_cons_self p
    show (match f s0 x with
      | .ok (.nx s') => loopR f s' l
      | .ok (.ct s') => loopR f s' l
      | .ok (.bk s') => .ok (.bk s')
      | .ok (.rt t) => .ok (.rt t)
      | .ex e => .ex e
      | .bad => .bad) = _
    rw [e]
    exact loopR_fold g P (l := l) (fun s y hy => h s y (List.mem_cons_of_mem _ hy)) p1
theorem loopR_cons {f : S → α → R (LO S T)} {s s' : S} {x : α} {l : List α} (h : f s x = .ok (.nx s')) : loopR f s (x :: l) = loopR f s' l := by
  show (match f s x with
      | .ok (.nx s') => loopR f s' l
      | .ok (.ct s') => loopR f s' l
      | .ok (.bk s') => .ok (.bk s')
      | .ok (.rt t) => .ok (.rt t)
      | .ex e => .ex e
      | .bad => .bad) = _
  rw [h]
theorem loopR_ex {f : S → α → R (LO S T)} {s : S} {x : α} {l : List α} {e : Er} (h : f s x = .ex e) : loopR f s (x :: l) = .ex e := by
  show (match f s x with
      | .ok (.nx s') => loopR f s' l
      | .ok (.ct s') => loopR f s' l
      | .ok (.bk s') => .ok (.bk s')
      | .ok (.rt t) => .ok (.rt t)
      | .ex e => .ex e
      | .bad => .bad) = _
  rw [h]
theorem loopR_rt {f : S → α → R (LO S T)} {s : S} {x : α} {l : List α} {t : T} (h : f s x = .ok (.rt t)) : loopR f s (x :: l) = .ok (.rt t) := by
  show (match f s x with
      | .ok (.nx s') => loopR f s' l
      | .ok (.ct s') => loopR f s' l
      | .ok (.bk s') => .ok (.bk s')
      | .ok (.rt t) => .ok (.rt t)
      | .ex e => .ex e
      | .bad => .bad) = _
  rw [h]
@[simp] theorem loopR_nil {f : S → α → R (LO S T)} {s : S} : loopR f s [] = .ok (.nx s) := rfl
/-- a loop without a state that raises at the first item that is wrong -/
theorem loopR_check {f : Unit → α → R (LO Unit T)} {e : Er} (p : α → Bool) (l : List α) (h : ∀ x, x ∈ l → f () x = cond (p x) (.ok (.nx ())) (.ex e)) : loopR f () l = cond (l.all p) (.ok (.nx ())) (.ex e) := by
  induction l with
  | nil => rfl
  | cons x l ih =>
    have hx := h x List.mem_cons_self
    cases hp : p x with
    | true =>
      rw [hp] at hx
      rw [loopR_cons (s' := ()) hx, ih fun y hy => h y (List.mem_cons_of_mem _ hy), List.all_cons, hp, Bool.true_and]
    | false =>
      rw [hp] at hx
      rw [loopR_ex (e := e) hx, List.all_cons, hp, Bool.false_and]; rfl
theorem mapR_total {f : α → R β} {g : α → β} : ∀ {l : List α}, (∀ x, x ∈ l → f x = .ok (g x)) → mapR f l = .ok (l.map g)
  | [], _ => rfl
  | x :: l, h => by
    unfold mapR
    rw [h x List.mem_cons_self, need_ok, mapR_total fun y hy => h y (List.mem_cons_of_mem _ hy), need_ok, List.map_cons]
theorem list_map_id' (l : List α) : l.map (fun x => x) = l := by induction l with
  | nil => rfl
  | cons x l ih => rw [List.map_cons, ih]
theorem fmod_lt {a b : Int} (h : 0 < b) : 0 ≤ a % b ∧ a % b < b := ⟨Int.emod_nonneg a (by omega), Int.emod_lt_of_pos a h⟩
end SK

set_option Elab.async false
set_option linter.all false
set_option maxRecDepth 100000
set_option maxHeartbeats 4000000
/-! the mirror of the law's text: plain Lean -/
namespace M_k22
open PySem SK
structure PCourse where
  hours : (List (Int × Int × Int × Int × Bool))
  deriving DecidableEq
/-- which errors except InvalidCourse takes -/
def c_InvalidCourse : Er → Bool
  | .works => true
  | .course => true
  | .state => false
  | .move => true
  | .command => true
  | .line _ => true
def L_cell (script : List Int) (k_v : Int) : R Int :=
  cond (decide (k_v < (script.length : Int)))
  ((idxR script k_v).need fun v1 =>
  .ok v1)
  (.ok ((((7 : Int) * k_v) + (3 : Int))))
def L_hours (script : List Int) (most : Int) : R (List (Int × Int × Int × Int × Bool)) :=
  (L_cell script ((1 : Int))).need fun v2 =>
  (gd (decide (0 < most))).need fun u5 =>
  (gd (decide (RngS 0 (((1 : Int) + (v2 % most)))))).need fun u7 =>
  ((loopR (fun (s8 : ((List (Int × Int × Int × Int × Bool)))) (x9 : Int) => (
  (L_cell script (((2 : Int) + x9))).bind fun cell_here10 =>
  letR ((cell_here10 % (6 : Int)) : Int) fun low12 =>
  letR (((cell_here10 / (6 : Int)) % (3 : Int)) : Int) fun least14 =>
  (gd (decide (s8.length < 16777216))).need fun u17 =>
  letR (s8 ++ [(low12, (low12 + ((cell_here10 / (18 : Int)) % (5 : Int))), least14, (least14 + ((cell_here10 / (90 : Int)) % (3 : Int))), (decide (((cell_here10 / (270 : Int)) % (5 : Int)) = (0 : Int))))]) fun rows18 =>
  .ok (.nx rows18) : R (LO ((List (Int × Int × Int × Int × Bool))) (List (Int × Int × Int × Int × Bool))))) (([] : List (Int × Int × Int × Int × Bool)) : ((List (Int × Int × Int × Int × Bool)))) (rangeL 0 (((1 : Int) + (v2 % most))))).after (fun t => t) fun s20 =>
  .ok s20)
def is_whole (value : Int) (low : Int) (high : Int) : Bool :=
  (true && (((!false)) && ((decide (low ≤ value) && decide (value ≤ high)))))
def check_hour (hour : (Int × Int × Int × Int × Bool)) : R Unit :=
  cond ((!decide ((5 : Int) = (5 : Int))) || (!true))
  (.ex .course)
  (((loopR (fun (s2 : Unit) (x3 : Int) => (
  cond (!((is_whole x3 ((0 : Int)) ((400 : Int)))))
  (.ex .course)
  (.ok (.nx (()))) : R (LO Unit Empty))) (() : Unit) ([((hour.1, hour.2.1, hour.2.2.1, hour.2.2.2.1)).1, ((hour.1, hour.2.1, hour.2.2.1, hour.2.2.2.1)).2.1, ((hour.1, hour.2.1, hour.2.2.1, hour.2.2.2.1)).2.2.1, ((hour.1, hour.2.1, hour.2.2.1, hour.2.2.2.1)).2.2.2])).after (fun t : Empty => nomatch t) fun s5 =>
  cond ((decide (hour.2.1 < hour.1)) || (decide (hour.2.2.2.1 < hour.2.2.1)))
  (.ex .course)
  (.ok (()))))
def Course___init__ (hours : (List (Int × Int × Int × Int × Bool))) : R PCourse :=
  cond (!(decide ((1 : Int) ≤ (hours.length : Int)) && decide ((hours.length : Int) ≤ (72 : Int))))
  (.ex .course)
  (((loopR (fun (s1 : Unit) (x2 : (Int × Int × Int × Int × Bool)) => (
  (check_hour x2).bind fun u8 =>
  .ok (.nx (())) : R (LO Unit Empty))) (() : Unit) hours).after (fun t : Empty => nomatch t) fun s5 =>
  .ok (⟨(List.map (fun x6 : (Int × Int × Int × Int × Bool) => x6) hours)⟩)))
def Course_count (self : PCourse) : Int :=
  (self.hours.length : Int)
def Course_hour (self : PCourse) (number : Int) : R (Int × Int × Int × Int × Bool) :=
  cond (!((is_whole number ((0 : Int)) (((Course_count self) - (1 : Int))))))
  (.ex .state)
  ((idxR self.hours number).need fun v1 =>
  .ok v1)
def Course_narrowed (self : PCourse) (number : Int) (hour : (Int × Int × Int × Int × Bool)) : R PCourse :=
  (check_hour hour).bind fun u1 =>
  (Course_hour self number).bind fun now3 =>
  cond ((decide (hour.1 < now3.1)) || ((decide (now3.2.1 < hour.2.1)) || ((decide (hour.2.2.1 < now3.2.2.1)) || ((decide (now3.2.2.2.1 < hour.2.2.2.1)) || (!decide (hour.2.2.2.2 = now3.2.2.2.2))))))
  (.ex .course)
  ((gd (decide (((cutL self.hours none (some number))).length + (([hour] : (List (Int × Int × Int × Int × Bool)))).length ≤ 16777216))).need fun u10 =>
  (gd (decide ((((cutL self.hours none (some number)) ++ ([hour] : (List (Int × Int × Int × Int × Bool))))).length + ((cutL self.hours (some ((number + (1 : Int)))) none)).length ≤ 16777216))).need fun u12 =>
  Course___init__ ((((cutL self.hours none (some number)) ++ ([hour] : (List (Int × Int × Int × Int × Bool)))) ++ (cutL self.hours (some ((number + (1 : Int)))) none))))
def L_narrowed (course : PCourse) (number : Int) (hour : (Int × Int × Int × Int × Bool)) : R (Option PCourse) :=
  ((catchR (S := Unit) (T := (Option PCourse)) (
  (Course_narrowed course number hour).bind fun v => .ok (.rt ((some v)))) c_InvalidCourse (fun _ => (.ok (.rt ((none : (Option PCourse))))))).then (fun t => t) fun _ =>
  .bad)
def Course_has (self : PCourse) (number : Int) (sea : Int) (river : Int) : R Bool :=
  (Course_hour self number).bind fun t1 =>
  .ok ((((decide (t1.1 ≤ sea) && decide (sea ≤ t1.2.1))) && ((decide (t1.2.2.1 ≤ river) && decide (river ≤ t1.2.2.2.1)))))
def Course_raised (self : PCourse) (surge : Int) : R PCourse :=
  Course___init__ ((List.map (fun x1 : (Int × Int × Int × Int × Bool) => (x1.1, (x1.2.1 + surge), x1.2.2.1, x1.2.2.2.1, x1.2.2.2.2)) self.hours))
def L_too_high (course : PCourse) (surge : Int) : R Bool :=
  ((catchR (S := Unit) (T := Bool) (
  (Course_raised course surge).bind fun u1 =>
  .ok (.nx ())) c_InvalidCourse (fun _ => (.ok (.rt true)))).then (fun t => t) fun _ =>
  .ok false)
def law (script : List Int) : R Bool :=
  (L_hours script ((8 : Int))).bind fun hours_here1 =>
  (Course___init__ hours_here1).bind fun course3 =>
  (cond (!decide (course3.hours = hours_here1)) (.ok true) (cond (!decide ((Course_count course3) = (hours_here1.length : Int))) (.ok true) ((gd (decide (RngS 0 ((hours_here1.length : Int))))).need fun u6 => (mapR (fun x7 : Int => ((Course_hour course3 x7).need fun v9 => .ok v9 : R (Int × Int × Int × Int × Bool))) (rangeL 0 ((hours_here1.length : Int)))).need fun v11 => .ok (!decide (v11 = hours_here1))))).need fun b135 => cond b135
  (.ok false)
  ((gd (decide (((cutL script (some ((10 : Int))) (some ((30 : Int))))).length + (([(0 : Int), (1 : Int)] : (List Int))).length ≤ 16777216))).need fun u16 =>
  ((loopR (fun (s17 : Unit) (x18 : Int) => (
  (gd (decide (0 < (hours_here1.length : Int)))).need fun u22 =>
  letR ((x18 % (hours_here1.length : Int)) : Int) fun number19 =>
  (idxR hours_here1 number19).need fun v25 =>
  letR (v25 : (Int × Int × Int × Int × Bool)) fun old23 =>
  letR (((((x18 / (24 : Int)) % (3 : Int)) - (1 : Int)), (((x18 / (72 : Int)) % (3 : Int)) - (1 : Int)), (((x18 / (216 : Int)) % (3 : Int)) - (1 : Int)), (((x18 / (648 : Int)) % (3 : Int)) - (1 : Int))) : (Int × Int × Int × Int)) fun change27 =>
  (mapR (fun x29 : Int => ((gd (decide (0 ≤ x29))).need fun u34 => (idxR ([old23.1, old23.2.1, old23.2.2.1, old23.2.2.2.1] : List Int) x29).need fun v31 => (idxR ([change27.1, change27.2.1, change27.2.2.1, change27.2.2.2]) x29).need fun v35 => .ok ((v31 + v35)) : R Int)) (rangeL 0 ((4 : Int)))).need fun v37 =>
  letR ((!decide (old23.2.2.2.2 = (decide (((x18 / (1944 : Int)) % (7 : Int)) = (0 : Int))))) : Bool) fun ship41 =>
  (idxR v37 ((0 : Int))).need fun v45 =>
  (cond ((decide (old23.1 ≤ v45))) ((idxR v37 ((1 : Int))).need fun v47 => cond ((decide (v47 ≤ old23.2.1))) ((idxR v37 ((2 : Int))).need fun v49 => cond ((decide (old23.2.2.1 ≤ v49))) ((idxR v37 ((3 : Int))).need fun v51 => cond ((decide (v51 ≤ old23.2.2.2.1))) (.ok ((decide (ship41 = old23.2.2.2.2)))) (.ok false)) (.ok false)) (.ok false)) (.ok false)).need fun v53 =>
  letR (v53 : Bool) fun fits43 =>
  (cond fits43 ((idxR v37 ((0 : Int))).need fun v57 => (idxR v37 ((1 : Int))).need fun v59 => cond ((decide (v57 ≤ v59))) ((idxR v37 ((2 : Int))).need fun v61 => (idxR v37 ((3 : Int))).need fun v63 => .ok ((decide (v61 ≤ v63)))) (.ok false)) (.ok false)).need fun v65 =>
  letR (v65 : Bool) fun fits55 =>
  (idxR v37 ((0 : Int))).need fun v67 =>
  (idxR v37 ((1 : Int))).need fun v69 =>
  (idxR v37 ((2 : Int))).need fun v71 =>
  (idxR v37 ((3 : Int))).need fun v73 =>
  (L_narrowed course3 number19 ((v67, v69, v71, v73, ship41))).bind fun told75 =>
  cond (!decide ((!told75.isNone) = fits55))
  (.ok (.rt false))
  ((cond fits55 ((optR told75).need fun v77 => (idxR v37 ((0 : Int))).need fun v79 => (idxR v37 ((1 : Int))).need fun v81 => (idxR v37 ((2 : Int))).need fun v83 => (idxR v37 ((3 : Int))).need fun v85 => (gd (decide (((cutL hours_here1 none (some number19))).length + (([(v79, v81, v83, v85, ship41)] : (List (Int × Int × Int × Int × Bool)))).length ≤ 16777216))).need fun u88 => (gd (decide ((((cutL hours_here1 none (some number19)) ++ ([(v79, v81, v83, v85, ship41)] : (List (Int × Int × Int × Int × Bool))))).length + ((cutL hours_here1 (some ((number19 + (1 : Int)))) none)).length ≤ 16777216))).need fun u90 => .ok (!decide (v77.hours = (((cutL hours_here1 none (some number19)) ++ ([(v79, v81, v83, v85, ship41)] : (List (Int × Int × Int × Int × Bool)))) ++ (cutL hours_here1 (some ((number19 + (1 : Int)))) none))))) (.ok false)).need fun b102 => cond b102
  (.ok (.rt false))
  (letR (((old23.1 + ((x18 / (5 : Int)) % (9 : Int))) - (2 : Int)) : Int) fun sea92 =>
  letR (((old23.2.2.1 + ((x18 / (45 : Int)) % (6 : Int))) - (2 : Int)) : Int) fun river94 =>
  (Course_has course3 number19 sea92 river94).bind fun told96 =>
  cond (((!decide (told96 = true)) && (!decide (told96 = false))) || (!decide (told96 = (((decide (old23.1 ≤ sea92) && decide (sea92 ≤ old23.2.1))) && ((decide (old23.2.2.1 ≤ river94) && decide (river94 ≤ old23.2.2.2.1)))))))
  (.ok (.rt false))
  (.ok (.nx (()))))) : R (LO Unit Bool))) (() : Unit) (((cutL script (some ((10 : Int))) (some ((30 : Int)))) ++ ([(0 : Int), (1 : Int)] : (List Int))))).after (fun t => t) fun s104 =>
  (L_cell script ((9 : Int))).need fun v107 =>
  letR ((v107 % (50 : Int)) : Int) fun surge105 =>
  (Course_raised course3 surge105).need fun v111 =>
  letR (v111.hours : (List (Int × Int × Int × Int × Bool))) fun raised109 =>
  cond (!decide (raised109 = (List.map (fun x113 : (Int × Int × Int × Int × Bool) => (x113.1, (x113.2.1 + surge105), x113.2.2.1, x113.2.2.2.1, x113.2.2.2.2)) hours_here1)))
  (.ok false)
  ((maxL ((List.map (fun x117 : (Int × Int × Int × Int × Bool) => x117.2.1) hours_here1))).need fun v119 =>
  letR (((400 : Int) - v119) : Int) fun highest115 =>
  (Course_raised course3 highest115).need fun v121 =>
  cond (!decide (v121.hours = (List.map (fun x123 : (Int × Int × Int × Int × Bool) => (x123.1, (x123.2.1 + highest115), x123.2.2.1, x123.2.2.2.1, x123.2.2.2.2)) hours_here1)))
  (.ok false)
  ((cond ((decide (course3.hours = hours_here1))) ((L_too_high course3 ((highest115 + (1 : Int)))).need fun v125 => cond v125 ((L_too_high course3 (((highest115 + (1 : Int)) + surge105))).need fun v127 => .ok v127) (.ok false)) (.ok false)).need fun v129 =>
  .ok v129))))
end M_k22

set_option Elab.async false
set_option linter.all false
set_option maxRecDepth 100000
set_option maxHeartbeats 2000000
namespace M_k22
open PySem L2 SK
abbrev Hour := Int × Int × Int × Int × Bool
/-- the cell of the script that is read -/
def cell (ns : List Int) (k : Int) : Int := if k < (ns.length : Int) then ns[k.toNat]?.getD 0 else 7 * k + 3
theorem cell_eq {ns : List Int} {k : Int} (h : 0 ≤ k) : L_cell ns k = .ok (cell ns k) := by
  unfold L_cell cell
  by_cases q : k < (ns.length : Int)
  · rw [cond_t (decide_eq_true q), if_pos q]
    have hk : k.toNat < ns.length := by omega
    rw [idxR_get h hk, List.getElem?_eq_getElem hk]
    rfl
  · rw [cond_f (decide_eq_false q), if_neg q]
/-- an hour as they are drawn -/
structure Drawn (h : Hour) : Prop where
  a : 0 ≤ h.1
  b : h.1 ≤ h.2.1
  c : h.2.1 ≤ 9
  d : 0 ≤ h.2.2.1
  e : h.2.2.1 ≤ h.2.2.2.1
  f : h.2.2.2.1 ≤ 4
theorem hours_ok (ns : List Int) : ∃ hs, L_hours ns 8 = .ok hs ∧ 1 ≤ hs.length ∧ hs.length ≤ 8 ∧ ∀ h ∈ hs, Drawn h := by
  unfold L_hours
  rw [cell_eq (by decide), need_ok, gd_true (show (0 : Int) < 8 by decide), need_ok]
  have hm := fmod_lt (a := cell ns 1) (b := 8) (by decide)
  generalize hn : (1 : Int) + cell ns 1 % 8 = n
  rw [gd_true (show RngS 0 n by unfold RngS; omega), need_ok]
  obtain ⟨s, e, p1, p2⟩ := loopR_pre (T := List Hour) (done := []) (fun (d : List Int) (s : List Hour) => s.length = d.length ∧ ∀ h ∈ s, Drawn h) (l := rangeL 0 n) (s0 := ([] : List Hour))
    (f := fun s8 x9 => (L_cell ns (2 + x9)).bind fun cell_here10 =>
      letR (cell_here10 % 6) fun low12 =>
      letR (cell_here10 / 6 % 3) fun least14 =>
      (gd (decide (s8.length < 16777216))).need fun u17 =>
      letR (s8 ++ [(low12, low12 + cell_here10 / 18 % 5, least14, least14 + cell_here10 / 90 % 3, decide (cell_here10 / 270 % 5 = 0))]) fun rows18 =>
      .ok (.nx rows18))
    (fun d s x r hr ⟨h1, h2⟩ => by
      have hl := congrArg List.length hr
      rw [List.nil_append, rangeL_length, List.length_append, List.length_cons] at hl
      have hx : x ∈ rangeL 0 n := by
        have : x ∈ d ++ x :: r := List.mem_append_right _ List.mem_cons_self
        rw [← hr] at this; exact this
      have hx' := mem_rangeL.mp hx
      rw [cell_eq (by omega)]
      simp only [bind_ok, letR_eq]
      rw [gd_true (show s.length < 16777216 by omega)]
      refine ⟨_, rfl, by rw [List.length_append, List.length_append, h1]; rfl, fun h hh => ?_⟩
      rcases List.mem_append.mp hh with q | q
      · exact h2 h q
      · rw [List.mem_singleton] at q
        subst q
        generalize cell ns (2 + x) = c
        have m1 := fmod_lt (a := c) (b := 6) (by decide)
        have m2 := fmod_lt (a := c / 6) (b := 3) (by decide)
        have m3 := fmod_lt (a := c / 18) (b := 5) (by decide)
        have m4 := fmod_lt (a := c / 90) (b := 3) (by decide)
        constructor <;> simp only <;> omega)
    ⟨rfl, fun _ z => by simp at z⟩
  rw [List.nil_append, rangeL_length] at p1
  refine ⟨s, ?_, by omega, by omega, p2⟩
  rw [e]; rfl
/-- an hour that the program takes -/
def Valid (h : Hour) : Prop := (0 ≤ h.1 ∧ h.1 ≤ 400) ∧ (0 ≤ h.2.1 ∧ h.2.1 ≤ 400) ∧ (0 ≤ h.2.2.1 ∧ h.2.2.1 ≤ 400) ∧ (0 ≤ h.2.2.2.1 ∧ h.2.2.2.1 ≤ 400) ∧ h.1 ≤ h.2.1 ∧ h.2.2.1 ≤ h.2.2.2.1
instance (h : Hour) : Decidable (Valid h) := by unfold Valid; infer_instance
theorem Drawn.valid {h : Hour} (d : Drawn h) : Valid h := by
  obtain ⟨a, b, c, d, e, f⟩ := d
  unfold Valid; omega
theorem whole_eq (v l h : Int) : is_whole v l h = decide (l ≤ v ∧ v ≤ h) := by
  unfold is_whole
  by_cases a : l ≤ v <;> by_cases b : v ≤ h <;> simp [a, b]
theorem check_eq (h : Hour) : check_hour h = cond (decide (Valid h)) (.ok ()) (.ex .course) := by
  unfold check_hour
  rw [cond_f (by rfl), loopR_check (e := .course) (fun v => decide (0 ≤ v ∧ v ≤ 400)) _ (fun x _ => by rw [whole_eq]; by_cases q : 0 ≤ x ∧ x ≤ 400 <;> simp [q])]
  simp only [List.all_cons, List.all_nil, Bool.and_true]
  unfold Valid
  by_cases q1 : 0 ≤ h.1 ∧ h.1 ≤ 400
  · by_cases q2 : 0 ≤ h.2.1 ∧ h.2.1 ≤ 400
    · by_cases q3 : 0 ≤ h.2.2.1 ∧ h.2.2.1 ≤ 400
      · by_cases q4 : 0 ≤ h.2.2.2.1 ∧ h.2.2.2.1 ≤ 400
        · by_cases q5 : h.1 ≤ h.2.1
          · by_cases q6 : h.2.2.1 ≤ h.2.2.2.1
            · simp [q1, q2, q3, q4, q5, q6, show ¬ h.2.1 < h.1 by omega, show ¬ h.2.2.2.1 < h.2.2.1 by omega]
            · simp [q1, q2, q3, q4, q5, q6, show ¬ h.2.1 < h.1 by omega, show h.2.2.2.1 < h.2.2.1 by omega]
          · simp [q1, q2, q3, q4, q5, show h.2.1 < h.1 by omega]
        · simp [q1, q2, q3, q4]
      · simp [q1, q2, q3]
    · simp [q1, q2]
  · simp [q1]
theorem init_eq (hs : List Hour) : Course___init__ hs = cond (decide (1 ≤ hs.length ∧ hs.length ≤ 72) && hs.all fun h => decide (Valid h)) (.ok ⟨hs⟩) (.ex .course) := by
  unfold Course___init__
  have e1 : (decide ((1 : Int) ≤ (hs.length : Int)) && decide ((hs.length : Int) ≤ 72)) = decide (1 ≤ hs.length ∧ hs.length ≤ 72) := by
    by_cases a : 1 ≤ hs.length <;> by_cases b : hs.length ≤ 72
    · simp [a, b, show (1 : Int) ≤ hs.length by omega, show (hs.length : Int) ≤ 72 by omega]
    · simp [a, b, show (1 : Int) ≤ hs.length by omega, show ¬ (hs.length : Int) ≤ 72 by omega]
    · simp [a, b, show ¬ (1 : Int) ≤ hs.length by omega]
    · simp [a, b, show ¬ (1 : Int) ≤ hs.length by omega]
  rw [e1]
  by_cases q : 1 ≤ hs.length ∧ hs.length ≤ 72
  · rw [decide_eq_true q, cond_f (by rfl), loopR_check (e := .course) (fun h => decide (Valid h)) _ (fun x _ => by rw [check_eq]; by_cases v : Valid x <;> simp [v]), Bool.true_and, list_map_id']
    cases (hs.all fun h => decide (Valid h)) <;> rfl
  · rw [decide_eq_false q]; rfl
theorem init_ok {hs : List Hour} (h1 : 1 ≤ hs.length) (h2 : hs.length ≤ 72) (hv : ∀ h ∈ hs, Valid h) : Course___init__ hs = .ok ⟨hs⟩ := by
  rw [init_eq, decide_eq_true ⟨h1, h2⟩, show (hs.all fun h => decide (Valid h)) = true from List.all_eq_true.mpr fun h m => decide_eq_true (hv h m)]; rfl
theorem init_ex {hs : List Hour} {h : Hour} (hm : h ∈ hs) (hv : ¬ Valid h) : Course___init__ hs = .ex .course := by
  rw [init_eq, show (hs.all fun h => decide (Valid h)) = false from ?_, Bool.and_false]; rfl
  cases q : hs.all fun h => decide (Valid h) with
  | false => rfl
  | true => exact absurd (of_decide_eq_true (List.all_eq_true.mp q h hm)) hv
theorem hour_eq {c : PCourse} {i : Int} (h0 : 0 ≤ i) (h1 : i.toNat < c.hours.length) : Course_hour c i = .ok c.hours[i.toNat] := by
  unfold Course_hour Course_count
  rw [whole_eq, cond_f (by rw [decide_eq_true (show 0 ≤ i ∧ i ≤ (c.hours.length : Int) - 1 by omega)]; rfl), idxR_get h0 h1]; rfl
/-- no bound is wider -/
def Fits (o n : Hour) : Prop := o.1 ≤ n.1 ∧ n.2.1 ≤ o.2.1 ∧ o.2.2.1 ≤ n.2.2.1 ∧ n.2.2.2.1 ≤ o.2.2.2.1 ∧ n.2.2.2.2 = o.2.2.2.2
instance (o n : Hour) : Decidable (Fits o n) := by unfold Fits; infer_instance
theorem sIx_nat (n d : Nat) (i : Int) (h0 : 0 ≤ i) (h : i.toNat ≤ n) : HT.sIx n d (some i) = i.toNat := by
  have e : i = ((i.toNat : Nat) : Int) := by omega
  rw [e, HT.sIx_nat]
  have : (((i.toNat : Nat) : Int)).toNat = i.toNat := by omega
  rw [this]; omega
theorem cut_take {α : Type} (l : List α) (i : Int) (h0 : 0 ≤ i) (h : i.toNat ≤ l.length) : cutL l none (some i) = l.take i.toNat := by
  unfold cutL
  rw [sIx_nat _ _ i h0 h, HT.sIx_none, List.drop_zero, Nat.sub_zero]
theorem cut_drop {α : Type} (l : List α) (i : Int) (h0 : 0 ≤ i) (h : i.toNat ≤ l.length) : cutL l (some i) none = l.drop i.toNat := by
  unfold cutL
  rw [sIx_nat _ _ i h0 h, HT.sIx_none, List.take_of_length_le (by rw [List.length_drop]; omega)]
theorem cut_length {α : Type} (l : List α) (a b : Option Int) : (cutL l a b).length ≤ l.length := by
  unfold cutL
  rw [List.length_take, List.length_drop]; omega
theorem narrowed_eq {c : PCourse} {i : Int} {n : Hour} (h0 : 0 ≤ i) (h1 : i.toNat < c.hours.length) (h8 : c.hours.length ≤ 8) (hd : ∀ h ∈ c.hours, Drawn h) :
    L_narrowed c i n = .ok (if Fits c.hours[i.toNat] n ∧ n.1 ≤ n.2.1 ∧ n.2.2.1 ≤ n.2.2.2.1 then some ⟨c.hours.take i.toNat ++ [n] ++ c.hours.drop (i.toNat + 1)⟩ else none) := by
  have ho := hd _ (List.getElem_mem h1)
  have key : Course_narrowed c i n = if Fits c.hours[i.toNat] n ∧ n.1 ≤ n.2.1 ∧ n.2.2.1 ≤ n.2.2.2.1 then .ok ⟨c.hours.take i.toNat ++ [n] ++ c.hours.drop (i.toNat + 1)⟩ else .ex .course := by
    unfold Course_narrowed
    rw [check_eq]
    by_cases hv : Valid n
    · rw [decide_eq_true hv, cond_t rfl, bind_ok, hour_eq h0 h1, bind_ok]
      generalize c.hours[i.toNat] = o at ho
      by_cases hf : Fits o n
      · have hf' := id hf
        unfold Fits at hf'
        obtain ⟨f1, f2, f3, f4, f5⟩ := hf'
        rw [cond_f (by simp [show ¬ n.1 < o.1 by omega, show ¬ o.2.1 < n.2.1 by omega, show ¬ n.2.2.1 < o.2.2.1 by omega, show ¬ o.2.2.2.1 < n.2.2.2.1 by omega, f5])]
        have hv' := id hv
        unfold Valid at hv'
        rw [if_pos ⟨hf, by omega, by omega⟩]
        have l1 := cut_length c.hours none (some i)
        have l2 := cut_length c.hours (some (i + 1)) none
        rw [gd_true (show (cutL c.hours none (some i)).length + ([n] : List Hour).length ≤ 16777216 by simp only [List.length_singleton]; omega), need_ok,
          gd_true (show (cutL c.hours none (some i) ++ [n]).length + (cutL c.hours (some (i + 1)) none).length ≤ 16777216 by rw [List.length_append, List.length_singleton]; omega), need_ok,
          cut_take _ _ h0 (by omega), cut_drop _ _ (by omega) (by omega), show (i + 1).toNat = i.toNat + 1 by omega]
        refine init_ok ?_ ?_ fun h hm => ?_
        · rw [List.length_append, List.length_append, List.length_singleton]; omega
        · rw [List.length_append, List.length_append, List.length_singleton, List.length_take, List.length_drop]; omega
        · rcases List.mem_append.mp hm with q | q
          · rcases List.mem_append.mp q with q | q
            · exact (hd h (List.mem_of_mem_take q)).valid
            · rw [List.mem_singleton] at q; subst q; exact hv
          · exact (hd h (List.mem_of_mem_drop q)).valid
      · rw [if_neg (fun z => hf z.1), cond_t ?_]
        unfold Fits at hf
        by_cases a1 : n.1 < o.1
        · simp [a1]
        by_cases a2 : o.2.1 < n.2.1
        · simp [a2]
        by_cases a3 : n.2.2.1 < o.2.2.1
        · simp [a3]
        by_cases a4 : o.2.2.2.1 < n.2.2.2.1
        · simp [a4]
        have a5 : ¬ n.2.2.2.2 = o.2.2.2.2 := fun z => hf ⟨by omega, by omega, by omega, by omega, z⟩
        simp [a5]
    · rw [decide_eq_false hv, cond_f rfl, bind_ex, if_neg]
      rintro ⟨hf, q1, q2⟩
      refine hv ?_
      unfold Fits at hf
      obtain ⟨d1, d2, d3, d4, d5, d6⟩ := ho
      unfold Valid; omega
  unfold L_narrowed
  rw [key]
  by_cases q : Fits c.hours[i.toNat] n ∧ n.1 ≤ n.2.1 ∧ n.2.2.1 ≤ n.2.2.2.1
  · rw [if_pos q, if_pos q]; rfl
  · rw [if_neg q, if_neg q]; rfl
theorem has_eq {c : PCourse} {i s r : Int} (h0 : 0 ≤ i) (h1 : i.toNat < c.hours.length) : Course_has c i s r = .ok ((decide (c.hours[i.toNat].1 ≤ s) && decide (s ≤ c.hours[i.toNat].2.1)) && (decide (c.hours[i.toNat].2.2.1 ≤ r) && decide (r ≤ c.hours[i.toNat].2.2.2.1))) := by
  unfold Course_has
  rw [hour_eq h0 h1, bind_ok]
/-- all greatest seas raised -/
def rais (s : Int) (h : Hour) : Hour := (h.1, h.2.1 + s, h.2.2.1, h.2.2.2.1, h.2.2.2.2)
theorem raised_ok {hs : List Hour} {s : Int} (h1 : 1 ≤ hs.length) (h2 : hs.length ≤ 8) (hd : ∀ h ∈ hs, Drawn h) (h0 : 0 ≤ s) (hm : ∀ h ∈ hs, h.2.1 + s ≤ 400) : Course_raised ⟨hs⟩ s = .ok ⟨hs.map (rais s)⟩ := by
  show Course___init__ (hs.map (rais s)) = _
  refine init_ok (by rw [List.length_map]; exact h1) (by rw [List.length_map]; omega) fun h hh => ?_
  obtain ⟨g, hg, rfl⟩ := List.mem_map.mp hh
  obtain ⟨a, b, c, d, e, f⟩ := hd g hg
  have := hm g hg
  unfold Valid rais
  simp only
  omega
theorem raised_ex {hs : List Hour} {s : Int} {h : Hour} (hh : h ∈ hs) (hm : 400 < h.2.1 + s) : Course_raised ⟨hs⟩ s = .ex .course := by
  refine init_ex (h := rais s h) (List.mem_map_of_mem hh) fun z => ?_
  unfold Valid rais at z
  simp only at z
  omega
theorem high_ex {hs : List Hour} {s : Int} {h : Hour} (hh : h ∈ hs) (hm : 400 < h.2.1 + s) : L_too_high ⟨hs⟩ s = .ok true := by
  unfold L_too_high
  rw [raised_ex hh hm]; rfl
/-- one turn of the law's loop -/
theorem four {o a b c d : Int} : mapR (fun x29 : Int => ((gd (decide (0 ≤ x29))).need fun u34 => (idxR ([a, b, c, d] : List Int) x29).need fun v31 => .ok v31 : R Int)) (rangeL 0 4) = .ok [a, b, c, d] := rfl
theorem law_true (ns : List Int) (h63 : ns.length ≤ 63) : law ns = .ok true := by
  obtain ⟨hs, e1, l1, l2, hd⟩ := hours_ok ns
  have vd : ∀ h ∈ hs, Valid h := fun h m => (hd h m).valid
  unfold law
  rw [e1, bind_ok, init_ok l1 (by omega) vd, bind_ok]
  have ehr : mapR (fun x7 : Int => ((Course_hour ⟨hs⟩ x7).need fun v9 => .ok v9 : R Hour)) (rangeL 0 (hs.length : Int)) = .ok hs := by
    rw [mapR_total (g := fun x : Int => hs[x.toNat]?.getD (0, 0, 0, 0, false))]
    · congr 1
      refine List.ext_getElem? fun i => ?_
      rw [List.getElem?_map]
      by_cases hi : i < hs.length
      · rw [rangeL_get (by omega)]
        have : ((0 : Int) + (i : Nat)).toNat = i := by omega
        simp [hi]
      · rw [List.getElem?_eq_none (by rw [rangeL_length]; omega), List.getElem?_eq_none (by omega)]; rfl
    · intro x hx
      have := mem_rangeL.mp hx
      rw [hour_eq (c := ⟨hs⟩) (by omega) (by show x.toNat < hs.length; omega), need_ok, List.getElem?_eq_getElem (by omega)]; rfl
  rw [cond_f (by simp), cond_f (by unfold Course_count; simp), gd_true (show RngS 0 (hs.length : Int) by unfold RngS; omega), need_ok, ehr, need_ok, need_ok, cond_f (by simp)]
  have cl := cut_length ns (some 10) (some 30)
  rw [gd_true (show (cutL ns (some 10) (some 30)).length + ([0, 1] : List Int).length ≤ 16777216 by simp only [List.length_cons, List.length_nil]; omega), need_ok, loopR_unit, after_nx]
  · rw [cell_eq (by decide), need_ok, letR_eq]
    have ms := fmod_lt (a := cell ns 9) (b := 50) (by decide)
    generalize cell ns 9 % 50 = sg at ms
    rw [raised_ok l1 l2 hd ms.1 (fun h m => by have := (hd h m).c; omega), need_ok, letR_eq, cond_f (by simp [rais])]
    obtain ⟨x, l, hx⟩ : ∃ x l, hs = x :: l := by
      cases hs with
      | nil => simp at l1
      | cons x l => exact ⟨x, l, rfl⟩
    obtain ⟨mx, emx⟩ : ∃ m, maxL (List.map (fun x117 : Hour => x117.2.1) hs) = .ok m := by rw [hx]; exact ⟨_, rfl⟩
    obtain ⟨m1, m2⟩ := maxL_ok emx
    obtain ⟨g, hg, hge⟩ := List.mem_map.mp m1
    have gd9 := hd g hg
    rw [emx, need_ok, letR_eq]
    have le9 : ∀ h ∈ hs, h.2.1 ≤ mx := fun h m => m2 _ (List.mem_map_of_mem m)
    have g9 := gd9.c
    rw [raised_ok l1 l2 hd (by omega) (fun h m => by have := le9 h m; omega), need_ok, cond_f (by simp [rais]), high_ex hg (by omega), high_ex hg (by omega)]
    simp
  · intro c hc
    have hl : (0 : Int) < hs.length := by omega
    rw [gd_true hl, need_ok, letR_eq]
    have mn := fmod_lt (a := c) (b := (hs.length : Int)) hl
    generalize c % (hs.length : Int) = i at mn
    have hi : i.toNat < hs.length := by omega
    rw [idxR_get mn.1 hi, need_ok, letR_eq]
    simp only [letR_eq]
    generalize c / 24 % 3 - 1 = c0
    generalize c / 72 % 3 - 1 = c1
    generalize c / 216 % 3 - 1 = c2
    generalize c / 648 % 3 - 1 = c3
    generalize ho : hs[i.toNat] = o
    obtain ⟨o0, o1, o2, o3, o4⟩ := o
    have e4 : mapR (fun x29 : Int => ((gd (decide (0 ≤ x29))).need fun u34 => (idxR ([o0, o1, o2, o3] : List Int) x29).need fun v31 => (idxR ([c0, c1, c2, c3]) x29).need fun v35 => .ok (v31 + v35) : R Int)) (rangeL 0 4) = .ok [o0 + c0, o1 + c1, o2 + c2, o3 + c3] := rfl
    simp only
    rw [e4, need_ok]
    generalize (!decide (o4 = decide (c / 1944 % 7 = 0))) = sh
    generalize o0 + c0 = n0
    generalize o1 + c1 = n1
    generalize o2 + c2 = n2
    generalize o3 + c3 = n3
    have i0 : idxR [n0, n1, n2, n3] 0 = .ok n0 := rfl
    have i1 : idxR [n0, n1, n2, n3] 1 = .ok n1 := rfl
    have i2 : idxR [n0, n1, n2, n3] 2 = .ok n2 := rfl
    have i3 : idxR [n0, n1, n2, n3] 3 = .ok n3 := rfl
    simp only [i0, i1, i2, i3, need_ok]
    have f1 : (cond (decide (o0 ≤ n0)) (cond (decide (n1 ≤ o1)) (cond (decide (o2 ≤ n2)) (cond (decide (n3 ≤ o3)) (R.ok (decide (sh = o4))) (.ok false)) (.ok false)) (.ok false)) (.ok false)) = .ok (decide (Fits (o0, o1, o2, o3, o4) (n0, n1, n2, n3, sh))) := by
      unfold Fits
      by_cases q0 : o0 ≤ n0 <;> by_cases q1 : n1 ≤ o1 <;> by_cases q2 : o2 ≤ n2 <;> by_cases q3 : n3 ≤ o3 <;> simp [q0, q1, q2, q3]
    rw [f1, need_ok]
    have f2 : (cond (decide (Fits (o0, o1, o2, o3, o4) (n0, n1, n2, n3, sh))) (cond (decide (n0 ≤ n1)) (R.ok (decide (n2 ≤ n3))) (.ok false)) (.ok false)) = .ok (decide (Fits (o0, o1, o2, o3, o4) (n0, n1, n2, n3, sh) ∧ n0 ≤ n1 ∧ n2 ≤ n3)) := by
      by_cases q0 : Fits (o0, o1, o2, o3, o4) (n0, n1, n2, n3, sh) <;> by_cases q1 : n0 ≤ n1 <;> simp [q0, q1]
    rw [f2, need_ok, narrowed_eq (c := ⟨hs⟩) mn.1 hi l2 hd, bind_ok]
    simp only [ho]
    have tk := cut_length hs none (some i)
    have dp := cut_length hs (some (i + 1)) none
    rw [has_eq (c := ⟨hs⟩) mn.1 hi]
    simp only [ho, bind_ok]
    have tl : ∀ b : Bool, ((!decide (b = true) && !decide (b = false)) || false) = false := fun b => by cases b <;> rfl
    by_cases q : Fits (o0, o1, o2, o3, o4) (n0, n1, n2, n3, sh) ∧ n0 ≤ n1 ∧ n2 ≤ n3
    · rw [if_pos q, decide_eq_true q]
      simp only [Option.isNone_some, Bool.not_false, decide_true, Bool.not_true, cond_true, cond_false, optR_some, need_ok]
      rw [gd_true (show (cutL hs none (some i)).length + ([(n0, n1, n2, n3, sh)] : List Hour).length ≤ 16777216 by simp only [List.length_singleton]; omega), need_ok,
        gd_true (show (cutL hs none (some i) ++ [(n0, n1, n2, n3, sh)]).length + (cutL hs (some (i + 1)) none).length ≤ 16777216 by rw [List.length_append, List.length_singleton]; omega), need_ok,
        cut_take _ _ mn.1 (by omega), cut_drop _ _ (by omega) (by omega), show (i + 1).toNat = i.toNat + 1 by omega]
      simp only [decide_true, Bool.not_true, need_ok, cond_false]
      rw [cond_f (tl _)]
    · rw [if_neg q, decide_eq_false q]
      simp only [Option.isNone_none, Bool.not_true, decide_true, cond_false, need_ok]
      rw [cond_f (tl _)]
end M_k22

set_option Elab.async false
set_option linter.all false
set_option maxRecDepth 100000
set_option maxHeartbeats 4000000
namespace M_k22
open PySem L2 SK
def top (i : Nat) : Stmt := PySem.Challenge.pw_surgekept_k22_courses_narrowed_and_raise.main.body.getD i (.Pass ⟨0, 0, 0, 0⟩)
abbrev topS (i : Nat) : Stmt := top i
structure Ads where
  dummy : Addr
  Course : Addr
  xInvalidCourse : Addr
abbrev fCourse (ad : Ads) (x : PCourse) : List (Str × A) := [("hours", aLst (List.map (fun z : (Int × Int × Int × Int × Bool) => aTup [aInt z.1, aInt z.2.1, aInt z.2.2.1, aInt z.2.2.2.1, aBool z.2.2.2.2]) x.hours))]
abbrev eCourse (ad : Ads) (x : PCourse) : A := aIns ad.Course (fCourse ad x)
/-- what the top has written -/
structure Txt (K : PySem.W.Frag) (mg : Str → Option Value) (ad : Ads) (cl : Er → Addr) : Prop where
  triv : True
  b_bool : mg "bool" = none
  b_int : mg "int" = none
  b_isinstance : mg "isinstance" = none
  b_len : mg "len" = none
  b_max : mg "max" = none
  b_range : mg "range" = none
  b_tuple : mg "tuple" = none
  g_MOST_HOURS : ∃ u, mg "MOST_HOURS" = some u ∧ RelV (.int 72) u
  g_MOST_WATER : ∃ u, mg "MOST_WATER" = some u ∧ RelV (.int 400) u
  x_InvalidCourse : Exn K mg "InvalidCourse" (cl .course)
  x_InvalidState : Exn K mg "InvalidState" (cl .state)
  c_Course : Cls K ad.Course
  a_Course_hours : NoAttr K ad.Course "hours"
  n_InvalidCourse : mg "InvalidCourse" = some (.ref ad.xInvalidCourse)
  k_InvalidCourse : ∀ e, PySem.W.exmOne K (.ref (cl e)) (.ref ad.xInvalidCourse) = some (c_InvalidCourse e)

/-! _law_cell -/
abbrev s_L_cell : Stmt := topS 11
abbrev N_L_cell : List Str := ["_law_script", "_law_k"]
abbrev sc_L_cell : Scope := {               kind := PySem.ScopeKind.function,               names := [                 (PySem.Str.ofString "_law_script", PySem.NameKind.local),                 (PySem.Str.ofString "_law_k", PySem.NameKind.local),                 (PySem.Str.ofString "len", PySem.NameKind.globalImplicit),                 (PySem.Str.ofString "int", PySem.NameKind.globalImplicit)],               isGenerator := false,               isCoroutine := false,               more := [] : PySem.Scope }
theorem fs_L_cell : FnScope N_L_cell ["_law_script", "_law_k"] (defScope s_L_cell) := ⟨rfl, rfl, rfl, by decide +kernel, rfl, by decide +kernel, by decide +kernel⟩
theorem se_L_cell : defScope s_L_cell = sc_L_cell := rfl
def I_L_cell (K : PySem.W.Frag) (ad : Ads) : List A → R A → Prop := fun as r => ∃ (script : List Int) (k_v : Int), as = [aScr K script, aInt k_v] ∧ r = (L_cell script k_v).map aInt
theorem sd_L_cell {X : Cx} {W : WX} {ad : Ads} {cl : Er → Addr} (T : Txt X.K X.mg ad cl) (F : Fc X W N_L_cell sc_L_cell 0) (hsc : X.env.scope = sc_L_cell)  (script : List Int) (k_v : Int) :
    SK cl X W (defBody s_L_cell) [] (gam N_L_cell.length [aScr X.K script, aInt k_v]) (cv (fun t : Int => Out.rt (aInt t)) (L_cell script k_v)) := by
  unfold L_cell
  refine sk_ifC (cv (fun t : Int => Out.rt (aInt t))) (td_lt (ee_var F.b 1 rfl) (ee_lenScr F.b T.b_len (ee_var F.b 0 rfl))) (fun h3 => ?_) (fun h3 => ?_)
  · refine sk_need (fun v1 h2 => ?_)
    exact sk_ret (ee_intI F.b T.b_int (ee_ixScrR (ee_var F.b 0 rfl) (ee_var F.b 1 rfl) h2))
  · refine sk_pop ?_
    exact sk_ret (ee_add (ee_mul (ee_int) (ee_var F.b 1 rfl) (.inl (by decide))) (ee_int))
theorem ok_L_cell {P : Program} {w : World} {K : PySem.W.Frag} {mg : Str → Option Value} {base : Heap} {ad : Ads} {cl : Er → Addr} {f : Addr} {fd : FuncData} (T : Txt K mg ad cl) (F : Fun K "_law_cell" "_law_cell" s_L_cell f fd)  :
    FnOk P w K mg base (L2.CX P w) 1 f fd ["_law_script", "_law_k"] (spOf cl 2 (I_L_cell K ad)) := by
  refine fn_body (cl := cl) (I := I_L_cell K ad) F fs_L_cell rfl se_L_cell ?_
  rintro cdv A1 outer s H E Fc as r ⟨script, k_v, rfl, rfl⟩ _
  exact ⟨_, finO_cv (f := aInt) _, sd_L_cell (X := cxOf (L2.CX P w) P w K mg base N_L_cell "_law_cell" (defScope s_L_cell) f cdv A1 outer s H E) T Fc rfl  script k_v⟩

/-! _law_hours -/
abbrev s_L_hours : Stmt := topS 13
abbrev N_L_hours : List Str := ["_law_script", "_law_most", "_law_rows", "_law_k", "_law_cell_here", "_law_low", "_law_least"]
abbrev sc_L_hours : Scope := {               kind := PySem.ScopeKind.function,               names := [                 (PySem.Str.ofString "_law_script", PySem.NameKind.local),                 (PySem.Str.ofString "_law_most", PySem.NameKind.local),                 (PySem.Str.ofString "_law_rows", PySem.NameKind.local),                 (PySem.Str.ofString "_law_k", PySem.NameKind.local),                 (PySem.Str.ofString "_law_cell_here", PySem.NameKind.local),                 (PySem.Str.ofString "_law_low", PySem.NameKind.local),                 (PySem.Str.ofString "_law_least", PySem.NameKind.local),                 (PySem.Str.ofString "range", PySem.NameKind.globalImplicit),                 (PySem.Str.ofString "_law_cell", PySem.NameKind.globalImplicit)],               isGenerator := false,               isCoroutine := false,               more := [] : PySem.Scope }
theorem fs_L_hours : FnScope N_L_hours ["_law_script", "_law_most"] (defScope s_L_hours) := ⟨rfl, rfl, rfl, by decide +kernel, rfl, by decide +kernel, by decide +kernel⟩
theorem se_L_hours : defScope s_L_hours = sc_L_hours := rfl
def I_L_hours (K : PySem.W.Frag) (ad : Ads) : List A → R A → Prop := fun as r => ∃ (script : List Int) (most : Int), as = [aScr K script, aInt most] ∧ r = (L_hours script most).map (fun z : (List (Int × Int × Int × Int × Bool)) => aLst (List.map (fun z : (Int × Int × Int × Int × Bool) => aTup [aInt z.1, aInt z.2.1, aInt z.2.2.1, aInt z.2.2.2.1, aBool z.2.2.2.2]) z))
theorem sd_L_hours {X : Cx} {W : WX} {ad : Ads} {cl : Er → Addr} (T : Txt X.K X.mg ad cl) (F : Fc X W N_L_hours sc_L_hours 1) (hsc : X.env.scope = sc_L_hours) (h_L_cell : FnX X "_law_cell" 1 ["_law_script", "_law_k"] (spOf cl 2 (I_L_cell X.K ad))) (script : List Int) (most : Int) :
    SK cl X W (defBody s_L_hours) [] (gam N_L_hours.length [aScr X.K script, aInt most]) (cv (fun t : (List (Int × Int × Int × Int × Bool)) => Out.rt (aLst (List.map (fun z : (Int × Int × Int × Int × Bool) => aTup [aInt z.1, aInt z.2.1, aInt z.2.2.1, aInt z.2.2.2.1, aBool z.2.2.2.2]) t))) (L_hours script most)) := by
  unfold L_hours
  refine sk_newLm (f := (fun z : (Int × Int × Int × Int × Bool) => aTup [aInt z.1, aInt z.2.1, aInt z.2.2.1, aInt z.2.2.2.1, aBool z.2.2.2.2])) (zs := ([] : List (Int × Int × Int × Int × Bool))) F.b 2 (ea_nil) ?_
  refine sk_need (fun v2 h3 => ?_)
  refine sk_need (fun u5 g4 => ?_)
  refine sk_need (fun u7 g6 => ?_)
  refine sk_for (ψ := (fun t : (List (Int × Int × Int × Int × Bool)) => aLst (List.map (fun z : (Int × Int × Int × Int × Bool) => aTup [aInt z.1, aInt z.2.1, aInt z.2.2.1, aInt z.2.2.2.1, aBool z.2.2.2.2]) t))) (emb := aInt) F (fun s8 : ((List (Int × Int × Int × Int × Bool))) => [.im (aScr X.K script), .im (aInt most), .ow none (cLst (List.map (fun z : (Int × Int × Int × Int × Bool) => aTup [aInt z.1, aInt z.2.1, aInt z.2.2.1, aInt z.2.2.2.1, aBool z.2.2.2.2]) s8)), .un, .un, .un, .un]) _ (ei_range1 (bd := true) F.b T.b_range (ee_add (ee_int) (ee_mod (ee_at (f := aInt) (ee_call F h_L_cell (ea_cons (ee_var F.b 0 rfl) (ea_cons (ee_int) (ea_nil))) ⟨script, (1 : Int), rfl, rfl⟩) h3) (ee_var F.b 1 rfl) (gd_ok g4))) (RngS.r (gd_ok g6)) (RngS.s0 (gd_ok g6))) (Le.same (Le.same (Le.same (Le.un (Le.un (Le.un (Le.un (Le.nil)))))))) (fun s8 x9 hx21 => ga_name F.b 3) (fun s8 x9 hx21 => ?_) (fun s20 => ?_)
  · refine sk_setR F.b 4 (ee_call F h_L_cell (ea_cons (ee_var F.b 0 rfl) (ea_cons (ee_add (ee_int) (ee_var F.b 3 rfl)) (ea_nil))) ⟨script, ((2 : Int) + x9), rfl, rfl⟩) (fun cell_here10 h11 => ?_)
    refine sk_setL (f := aInt) (cv (lo (fun s8 : ((List (Int × Int × Int × Int × Bool))) => [.im (aScr X.K script), .im (aInt most), .ow none (cLst (List.map (fun z : (Int × Int × Int × Int × Bool) => aTup [aInt z.1, aInt z.2.1, aInt z.2.2.1, aInt z.2.2.2.1, aBool z.2.2.2.2]) s8)), .un, .un, .un, .un]) (fun t : (List (Int × Int × Int × Int × Bool)) => aLst (List.map (fun z : (Int × Int × Int × Int × Bool) => aTup [aInt z.1, aInt z.2.1, aInt z.2.2.1, aInt z.2.2.2.1, aBool z.2.2.2.2]) t)))) F.b 5 (ee_mod (ee_var F.b 4 rfl) (ee_int) (by decide)) (fun low12 h13 => ?_)
    refine sk_setL (f := aInt) (cv (lo (fun s8 : ((List (Int × Int × Int × Int × Bool))) => [.im (aScr X.K script), .im (aInt most), .ow none (cLst (List.map (fun z : (Int × Int × Int × Int × Bool) => aTup [aInt z.1, aInt z.2.1, aInt z.2.2.1, aInt z.2.2.2.1, aBool z.2.2.2.2]) s8)), .un, .un, .un, .un]) (fun t : (List (Int × Int × Int × Int × Bool)) => aLst (List.map (fun z : (Int × Int × Int × Int × Bool) => aTup [aInt z.1, aInt z.2.1, aInt z.2.2.1, aInt z.2.2.2.1, aBool z.2.2.2.2]) t)))) F.b 6 (ee_mod (ee_div (ee_var F.b 4 rfl) (ee_int) ⟨by decide, by decide⟩) (ee_int) (by decide)) (fun least14 h15 => ?_)
    refine sk_need (fun u17 g16 => ?_)
    refine sk_appL (f := (fun z : (Int × Int × Int × Int × Bool) => aTup [aInt z.1, aInt z.2.1, aInt z.2.2.1, aInt z.2.2.2.1, aBool z.2.2.2.2])) (cv (lo (fun s8 : ((List (Int × Int × Int × Int × Bool))) => [.im (aScr X.K script), .im (aInt most), .ow none (cLst (List.map (fun z : (Int × Int × Int × Int × Bool) => aTup [aInt z.1, aInt z.2.1, aInt z.2.2.1, aInt z.2.2.2.1, aBool z.2.2.2.2]) s8)), .un, .un, .un, .un]) (fun t : (List (Int × Int × Int × Int × Bool)) => aLst (List.map (fun z : (Int × Int × Int × Int × Bool) => aTup [aInt z.1, aInt z.2.1, aInt z.2.2.1, aInt z.2.2.2.1, aBool z.2.2.2.2]) t)))) F.b 2 rfl (ee_tup (ea_cons (ee_var F.b 5 rfl) (ea_cons (ee_add (ee_var F.b 5 rfl) (ee_mod (ee_div (ee_var F.b 4 rfl) (ee_int) ⟨by decide, by decide⟩) (ee_int) (by decide))) (ea_cons (ee_var F.b 6 rfl) (ea_cons (ee_add (ee_var F.b 6 rfl) (ee_mod (ee_div (ee_var F.b 4 rfl) (ee_int) ⟨by decide, by decide⟩) (ee_int) (by decide))) (ea_cons (ee_eqI (ee_mod (ee_div (ee_var F.b 4 rfl) (ee_int) ⟨by decide, by decide⟩) (ee_int) (by decide)) (ee_int)) (ea_nil))))))) (gd_ok g16) (fun rows18 h19 => ?_)
    exact sk_end (Le.same (Le.same (Le.same (Le.un (Le.un (Le.un (Le.un (Le.nil))))))))
  · refine sk_frz 2 rfl frz_lst ?_
    exact sk_ret (ee_var F.b 2 rfl)
theorem ok_L_hours {P : Program} {w : World} {K : PySem.W.Frag} {mg : Str → Option Value} {base : Heap} {ad : Ads} {cl : Er → Addr} {f : Addr} {fd : FuncData} (T : Txt K mg ad cl) (F : Fun K "_law_hours" "_law_hours" s_L_hours f fd) (h_L_cell : Fn P w K mg base "_law_cell" 1 ["_law_script", "_law_k"] (spOf cl 2 (I_L_cell K ad))) :
    FnOk P w K mg base (L2.CX P w) 2 f fd ["_law_script", "_law_most"] (spOf cl 2 (I_L_hours K ad)) := by
  refine fn_body (cl := cl) (I := I_L_hours K ad) F fs_L_hours rfl se_L_hours ?_
  rintro cdv A1 outer s H E Fc as r ⟨script, most, rfl, rfl⟩ _
  exact ⟨_, finO_cv (f := (fun z : (List (Int × Int × Int × Int × Bool)) => aLst (List.map (fun z : (Int × Int × Int × Int × Bool) => aTup [aInt z.1, aInt z.2.1, aInt z.2.2.1, aInt z.2.2.2.1, aBool z.2.2.2.2]) z))) _, sd_L_hours (X := cxOf (L2.CX P w) P w K mg base N_L_hours "_law_hours" (defScope s_L_hours) f cdv A1 outer s H E) T Fc rfl h_L_cell script most⟩

/-! is_whole -/
abbrev s_is_whole : Stmt := topS 7
abbrev N_is_whole : List Str := ["value", "low", "high"]
abbrev sc_is_whole : Scope := {               kind := PySem.ScopeKind.function,               names := [                 (PySem.Str.ofString "value", PySem.NameKind.local),                 (PySem.Str.ofString "low", PySem.NameKind.local),                 (PySem.Str.ofString "high", PySem.NameKind.local),                 (PySem.Str.ofString "isinstance", PySem.NameKind.globalImplicit),                 (PySem.Str.ofString "int", PySem.NameKind.globalImplicit),                 (PySem.Str.ofString "bool", PySem.NameKind.globalImplicit)],               isGenerator := false,               isCoroutine := false,               more := [] : PySem.Scope }
theorem fs_is_whole : FnScope N_is_whole ["value", "low", "high"] (defScope s_is_whole) := ⟨rfl, rfl, rfl, by decide +kernel, rfl, by decide +kernel, by decide +kernel⟩
theorem se_is_whole : defScope s_is_whole = sc_is_whole := rfl
def I_is_whole (K : PySem.W.Frag) (ad : Ads) : List A → R A → Prop := fun as r => ∃ (value : Int) (low : Int) (high : Int), as = [aInt value, aInt low, aInt high] ∧ r = .ok (aBool ((is_whole value low high)))
theorem sd_is_whole {X : Cx} {W : WX} {ad : Ads} {cl : Er → Addr} (T : Txt X.K X.mg ad cl) (F : Fc X W N_is_whole sc_is_whole 0) (hsc : X.env.scope = sc_is_whole)  (value : Int) (low : Int) (high : Int) :
    SK cl X W (defBody s_is_whole) [] (gam N_is_whole.length [aInt value, aInt low, aInt high]) ((fun t : Bool => Out.rt (aBool t)) (is_whole value low high)) := by
  unfold is_whole
  exact sk_ret (ee_andP (ee_isi (T := "int") (r := true) F.b T.b_isinstance T.b_int (ee_var F.b 0 rfl) tyA_int) (fun _ => ee_andP (ee_not (ee_isi (T := "bool") (r := false) F.b T.b_isinstance T.b_bool (ee_var F.b 0 rfl) tyA_int)) (fun _ => ee_one (ee_chain (g := fun i j => decide (i ≤ j)) (g' := fun i j => decide (i ≤ j)) op_le op_le (ee_var F.b 1 rfl) (ee_var F.b 0 rfl) (ee_var F.b 2 rfl)))))
theorem ok_is_whole {P : Program} {w : World} {K : PySem.W.Frag} {mg : Str → Option Value} {base : Heap} {ad : Ads} {cl : Er → Addr} {f : Addr} {fd : FuncData} (T : Txt K mg ad cl) (F : Fun K "is_whole" "is_whole" s_is_whole f fd)  :
    FnOk P w K mg base (L2.CX P w) 1 f fd ["value", "low", "high"] (spOf cl 3 (I_is_whole K ad)) := by
  refine fn_body (cl := cl) (I := I_is_whole K ad) F fs_is_whole rfl se_is_whole ?_
  rintro cdv A1 outer s H E Fc as r ⟨value, low, high, rfl, rfl⟩ _
  exact ⟨_, .rt, sd_is_whole (X := cxOf (L2.CX P w) P w K mg base N_is_whole "is_whole" (defScope s_is_whole) f cdv A1 outer s H E) T Fc rfl  value low high⟩

/-! check_hour -/
abbrev s_check_hour : Stmt := topS 8
abbrev N_check_hour : List Str := ["hour", "value"]
abbrev sc_check_hour : Scope := {               kind := PySem.ScopeKind.function,               names := [                 (PySem.Str.ofString "hour", PySem.NameKind.local),                 (PySem.Str.ofString "value", PySem.NameKind.local),                 (PySem.Str.ofString "len", PySem.NameKind.globalImplicit),                 (PySem.Str.ofString "isinstance", PySem.NameKind.globalImplicit),                 (PySem.Str.ofString "bool", PySem.NameKind.globalImplicit),                 (PySem.Str.ofString "InvalidCourse", PySem.NameKind.globalImplicit),                 (PySem.Str.ofString "is_whole", PySem.NameKind.globalImplicit),                 (PySem.Str.ofString "MOST_WATER", PySem.NameKind.globalImplicit)],               isGenerator := false,               isCoroutine := false,               more := [] : PySem.Scope }
theorem fs_check_hour : FnScope N_check_hour ["hour"] (defScope s_check_hour) := ⟨rfl, rfl, rfl, by decide +kernel, rfl, by decide +kernel, by decide +kernel⟩
theorem se_check_hour : defScope s_check_hour = sc_check_hour := rfl
def I_check_hour (K : PySem.W.Frag) (ad : Ads) : List A → R A → Prop := fun as r => ∃ (hour : (Int × Int × Int × Int × Bool)), as = [aTup [aInt hour.1, aInt hour.2.1, aInt hour.2.2.1, aInt hour.2.2.2.1, aBool hour.2.2.2.2]] ∧ r = (check_hour hour).map (fun _ => aNone)
theorem sd_check_hour {X : Cx} {W : WX} {ad : Ads} {cl : Er → Addr} (T : Txt X.K X.mg ad cl) (F : Fc X W N_check_hour sc_check_hour 1) (hsc : X.env.scope = sc_check_hour) (h_is_whole : FnX X "is_whole" 1 ["value", "low", "high"] (spOf cl 3 (I_is_whole X.K ad))) (hour : (Int × Int × Int × Int × Bool)) :
    SK cl X W (defBody s_check_hour) [] (gam N_check_hour.length [aTup [aInt hour.1, aInt hour.2.1, aInt hour.2.2.1, aInt hour.2.2.2.1, aBool hour.2.2.2.2]]) (cv (fun _ : Unit => Out.nx []) (check_hour hour)) := by
  unfold check_hour
  refine sk_ifC (cv (fun _ : Unit => Out.nx [])) (td_w (tdw_orP (td_neI (ee_lenTk F.b T.b_len (ee_var F.b 0 rfl)) (ee_int)) (fun h1 => tdw_or1 (td_not (td_val (ee_isi (T := "bool") (r := true) F.b T.b_isinstance T.b_bool (ee_ixT (ee_var F.b 0 rfl) (ee_int) rfl) tyA_bool)))))) (fun h10 => ?_) (fun h10 => ?_)
  · exact sk_raise F T.x_InvalidCourse (erp_none (fun _ => nofun)) Le.nil
  · refine sk_pop ?_
    refine sk_for (ψ := (fun t : Empty => nomatch t)) (emb := aInt) F (fun s2 : Unit => [.im (aTup [aInt hour.1, aInt hour.2.1, aInt hour.2.2.1, aInt hour.2.2.2.1, aBool hour.2.2.2.2]), .un]) _ (ei_tup (ee_slT 5 (ee_var F.b 0 rfl) (eo_none) (eo_some (ee_int)))) (Le.same (Le.un (Le.nil))) (fun s2 x3 hx9 => ga_name F.b 1) (fun s2 x3 hx9 => ?_) (fun s5 => ?_) (hr := fun t => nomatch t)
    · refine sk_ifC (cv (lo (fun s2 : Unit => [.im (aTup [aInt hour.1, aInt hour.2.1, aInt hour.2.2.1, aInt hour.2.2.2.1, aBool hour.2.2.2.2]), .un]) (fun t : Empty => nomatch t))) (td_not (td_val (ee_call F h_is_whole (ea_cons (ee_var F.b 1 rfl) (ea_cons (ee_int) (ea_cons (ee_globE F.b T.g_MOST_WATER) (ea_nil)))) ⟨x3, (0 : Int), (400 : Int), rfl, rfl⟩))) (fun h8 => ?_) (fun h8 => ?_)
      · exact sk_raise F T.x_InvalidCourse (erp_none (fun _ => nofun)) Le.nil
      · refine sk_pop ?_
        exact sk_end (Le.same (Le.un (Le.nil)))
    · refine sk_ifC (cv (fun _ : Unit => Out.nx [])) (td_w (tdw_orP (td_gt (ee_ixT (ee_var F.b 0 rfl) (ee_int) rfl) (ee_ixT (ee_var F.b 0 rfl) (ee_int) rfl)) (fun h6 => tdw_or1 (td_gt (ee_ixT (ee_var F.b 0 rfl) (ee_int) rfl) (ee_ixT (ee_var F.b 0 rfl) (ee_int) rfl))))) (fun h7 => ?_) (fun h7 => ?_)
      · exact sk_raise F T.x_InvalidCourse (erp_none (fun _ => nofun)) Le.nil
      · refine sk_pop ?_
        exact sk_end Le.nil
theorem ok_check_hour {P : Program} {w : World} {K : PySem.W.Frag} {mg : Str → Option Value} {base : Heap} {ad : Ads} {cl : Er → Addr} {f : Addr} {fd : FuncData} (T : Txt K mg ad cl) (F : Fun K "check_hour" "check_hour" s_check_hour f fd) (h_is_whole : Fn P w K mg base "is_whole" 1 ["value", "low", "high"] (spOf cl 3 (I_is_whole K ad))) :
    FnOk P w K mg base (L2.CX P w) 2 f fd ["hour"] (spOf cl 1 (I_check_hour K ad)) := by
  refine fn_body (cl := cl) (I := I_check_hour K ad) F fs_check_hour rfl se_check_hour ?_
  rintro cdv A1 outer s H E Fc as r ⟨hour, rfl, rfl⟩ _
  exact ⟨_, finO_cvN _, sd_check_hour (X := cxOf (L2.CX P w) P w K mg base N_check_hour "check_hour" (defScope s_check_hour) f cdv A1 outer s H E) T Fc rfl h_is_whole hour⟩

/-! Course.__init__ -/
abbrev s_Course___init__ : Stmt := inClass (topS 9) 0
abbrev N_Course___init__ : List Str := ["self", "hours", "hour"]
abbrev sc_Course___init__ : Scope := {                   kind := PySem.ScopeKind.function,                   names := [                     (PySem.Str.ofString "self", PySem.NameKind.local),                     (PySem.Str.ofString "hours", PySem.NameKind.local),                     (PySem.Str.ofString "hour", PySem.NameKind.local),                     (PySem.Str.ofString "len", PySem.NameKind.globalImplicit),                     (PySem.Str.ofString "MOST_HOURS", PySem.NameKind.globalImplicit),                     (PySem.Str.ofString "InvalidCourse", PySem.NameKind.globalImplicit),                     (PySem.Str.ofString "check_hour", PySem.NameKind.globalImplicit)],                   isGenerator := false,                   isCoroutine := false,                   more := [                     (PySem.Str.ofString "fast", (PySem.Const.str "self")),                     (PySem.Str.ofString "fast", (PySem.Const.str "hours")),                     (PySem.Str.ofString "fast", (PySem.Const.str "hour"))] : PySem.Scope }
abbrev sc_Course___init___c0 : Scope := {                         kind := PySem.ScopeKind.function,                         names := [                           (PySem.Str.ofString ".0", PySem.NameKind.local),                           (PySem.Str.ofString "hour", PySem.NameKind.local),                           (PySem.Str.ofString "tuple", PySem.NameKind.globalImplicit)],                         isGenerator := false,                         isCoroutine := false,                         more := [] : PySem.Scope }
theorem fs_Course___init__ : FnScope N_Course___init__ ["self", "hours"] (defScope s_Course___init__) := ⟨rfl, rfl, rfl, by decide +kernel, rfl, by decide +kernel, by decide +kernel⟩
theorem se_Course___init__ : defScope s_Course___init__ = sc_Course___init__ := rfl
def I_Course___init__ (K : PySem.W.Frag) (ad : Ads) : List A → R (List (Str × A)) → Prop := fun as r => ∃ (hours : (List (Int × Int × Int × Int × Bool))), as = [aLst (List.map (fun z : (Int × Int × Int × Int × Bool) => aTup [aInt z.1, aInt z.2.1, aInt z.2.2.1, aInt z.2.2.2.1, aBool z.2.2.2.2]) hours)] ∧ r = (Course___init__ hours).map (fCourse ad)
theorem sd_Course___init__ {X : Cx} {W : WX} {ad : Ads} {cl : Er → Addr} (T : Txt X.K X.mg ad cl) (F : Fc X W N_Course___init__ sc_Course___init__ 2) (hsc : X.env.scope = sc_Course___init__) (p : Addr) (h_check_hour : FnX X "check_hour" 2 ["hour"] (spOf cl 1 (I_check_hour X.K ad))) (hours : (List (Int × Int × Int × Int × Bool))) :
    SK cl X W (defBody s_Course___init__) [] (.ow (some p) (cIns ad.Course []) :: gam (N_Course___init__.length - 1) [aLst (List.map (fun z : (Int × Int × Int × Int × Bool) => aTup [aInt z.1, aInt z.2.1, aInt z.2.2.1, aInt z.2.2.2.1, aBool z.2.2.2.2]) hours)]) (cv (fun fs : PCourse => Out.nx [.ow (some p) (cIns ad.Course (fCourse ad fs))]) (Course___init__ hours)) := by
  unfold Course___init__
  refine sk_ifC (cv (fun fs : PCourse => Out.nx [.ow (some p) (cIns ad.Course (fCourse ad fs))])) (td_not (td_chain (g := fun i j => decide (i ≤ j)) (g' := fun i j => decide (i ≤ j)) op_le op_le (ee_int) (ee_lenLm (f := (fun z : (Int × Int × Int × Int × Bool) => aTup [aInt z.1, aInt z.2.1, aInt z.2.2.1, aInt z.2.2.2.1, aBool z.2.2.2.2])) F.b T.b_len (ee_var F.b 1 rfl)) (ee_globE F.b T.g_MOST_HOURS))) (fun h11 => ?_) (fun h11 => ?_)
  · exact sk_raise F T.x_InvalidCourse (erp_none (fun _ => nofun)) Le.nil
  · refine sk_pop ?_
    refine sk_for (ψ := (fun t : Empty => nomatch t)) (emb := (fun z : (Int × Int × Int × Int × Bool) => aTup [aInt z.1, aInt z.2.1, aInt z.2.2.1, aInt z.2.2.2.1, aBool z.2.2.2.2])) F (fun s1 : Unit => [.ow (some p) (cIns ad.Course []), .im (aLst (List.map (fun z : (Int × Int × Int × Int × Bool) => aTup [aInt z.1, aInt z.2.1, aInt z.2.2.1, aInt z.2.2.2.1, aBool z.2.2.2.2]) hours)), .un]) _ (ei_list (ee_var F.b 1 rfl)) (Le.same (Le.same (Le.un (Le.nil)))) (fun s1 x2 hx10 => ga_name F.b 2) (fun s1 x2 hx10 => ?_) (fun s5 => ?_) (hr := fun t => nomatch t)
    · refine sk_exprR (ee_call F h_check_hour (ea_cons (ee_var F.b 2 rfl) (ea_nil)) ⟨x2, rfl, rfl⟩) (fun u8 h9 => ?_)
      exact sk_end (Le.same (Le.same (Le.un (Le.nil))))
    · refine sk_fld F.b 0 T.c_Course T.a_Course_hours rfl (ee_lcMm F hsc (emb := (fun z : (Int × Int × Int × Int × Bool) => aTup [aInt z.1, aInt z.2.1, aInt z.2.2.1, aInt z.2.2.2.1, aBool z.2.2.2.2])) (g := (fun z : (Int × Int × Int × Int × Bool) => aTup [aInt z.1, aInt z.2.1, aInt z.2.2.1, aInt z.2.2.2.1, aBool z.2.2.2.2])) (out := fun x6 : (Int × Int × Int × Int × Bool) => x6) [("hour", 2)] (ei_list (ee_var F.b 1 rfl)) (fun s0 H0 C0 c0 fp0 x6 hx => have F7 := Fc.blk F s0 H0 C0 c0 fp0 sc_Course___init___c0; ga_name F7.b 2) (fun s0 H0 C0 c0 fp0 x6 hx => have F7 := Fc.blk F s0 H0 C0 c0 fp0 sc_Course___init___c0; ee_tupT F7.b T.b_tuple (ee_var F7.b 2 rfl))) ?_
      exact sk_end (Le.same Le.nil)
theorem ok_Course___init__ {P : Program} {w : World} {K : PySem.W.Frag} {mg : Str → Option Value} {base : Heap} {ad : Ads} {cl : Er → Addr} {f : Addr} {fd : FuncData} (T : Txt K mg ad cl) (F : Fun K "__init__" "Course.__init__" s_Course___init__ f fd) (h_check_hour : Fn P w K mg base "check_hour" 2 ["hour"] (spOf cl 1 (I_check_hour K ad))) :
    FnOk P w K mg base (L2.CX P w) 3 f fd ["self", "hours"] (spIni cl 1 ad.Course (I_Course___init__ K ad)) := by
  refine FnOk.imp (ini_body (cl := cl) (I := I_Course___init__ K ad) F fs_Course___init__ rfl se_Course___init__ ?_) (fun _ _ _ _ h => h)
  rintro cdv A1 outer s H E p Fc as r ⟨hours, rfl, rfl⟩ _
  rw [cv_map]
  exact sd_Course___init__ (X := cxOf (L2.CX P w) P w K mg base N_Course___init__ "Course.__init__" (defScope s_Course___init__) f cdv A1 outer s H E) T Fc rfl p h_check_hour hours

/-! Course.count -/
abbrev s_Course_count : Stmt := inClass (topS 9) 1
abbrev N_Course_count : List Str := ["self"]
abbrev sc_Course_count : Scope := {                   kind := PySem.ScopeKind.function,                   names := [(PySem.Str.ofString "self", PySem.NameKind.local), (PySem.Str.ofString "len", PySem.NameKind.globalImplicit)],                   isGenerator := false,                   isCoroutine := false,                   more := [] : PySem.Scope }
theorem fs_Course_count : FnScope N_Course_count ["self"] (defScope s_Course_count) := ⟨rfl, rfl, rfl, by decide +kernel, rfl, by decide +kernel, by decide +kernel⟩
theorem se_Course_count : defScope s_Course_count = sc_Course_count := rfl
def I_Course_count (K : PySem.W.Frag) (ad : Ads) : List A → R A → Prop := fun as r => ∃ (self : PCourse), as = [eCourse ad self] ∧ r = .ok (aInt ((Course_count self)))
theorem sd_Course_count {X : Cx} {W : WX} {ad : Ads} {cl : Er → Addr} (T : Txt X.K X.mg ad cl) (F : Fc X W N_Course_count sc_Course_count 0) (hsc : X.env.scope = sc_Course_count)  (self : PCourse) :
    SK cl X W (defBody s_Course_count) [] (gam N_Course_count.length [eCourse ad self]) ((fun t : Int => Out.rt (aInt t)) (Course_count self)) := by
  unfold Course_count
  exact sk_ret (ee_lenLm (f := (fun z : (Int × Int × Int × Int × Bool) => aTup [aInt z.1, aInt z.2.1, aInt z.2.2.1, aInt z.2.2.2.1, aBool z.2.2.2.2])) F.b T.b_len (ee_fld (ee_var F.b 0 rfl) T.c_Course T.a_Course_hours (by rfl)))
theorem ok_Course_count {P : Program} {w : World} {K : PySem.W.Frag} {mg : Str → Option Value} {base : Heap} {ad : Ads} {cl : Er → Addr} {f : Addr} {fd : FuncData} (T : Txt K mg ad cl) (F : Fun K "count" "Course.count" s_Course_count f fd)  :
    FnOk P w K mg base (L2.CX P w) 1 f fd ["self"] (spOf cl 1 (I_Course_count K ad)) := by
  refine fn_body (cl := cl) (I := I_Course_count K ad) F fs_Course_count rfl se_Course_count ?_
  rintro cdv A1 outer s H E Fc as r ⟨self, rfl, rfl⟩ _
  exact ⟨_, .rt, sd_Course_count (X := cxOf (L2.CX P w) P w K mg base N_Course_count "Course.count" (defScope s_Course_count) f cdv A1 outer s H E) T Fc rfl  self⟩

/-! Course.hour -/
abbrev s_Course_hour : Stmt := inClass (topS 9) 2
abbrev N_Course_hour : List Str := ["self", "number"]
abbrev sc_Course_hour : Scope := {                   kind := PySem.ScopeKind.function,                   names := [                     (PySem.Str.ofString "self", PySem.NameKind.local),                     (PySem.Str.ofString "number", PySem.NameKind.local),                     (PySem.Str.ofString "is_whole", PySem.NameKind.globalImplicit),                     (PySem.Str.ofString "InvalidState", PySem.NameKind.globalImplicit)],                   isGenerator := false,                   isCoroutine := false,                   more := [] : PySem.Scope }
theorem fs_Course_hour : FnScope N_Course_hour ["self", "number"] (defScope s_Course_hour) := ⟨rfl, rfl, rfl, by decide +kernel, rfl, by decide +kernel, by decide +kernel⟩
theorem se_Course_hour : defScope s_Course_hour = sc_Course_hour := rfl
def I_Course_hour (K : PySem.W.Frag) (ad : Ads) : List A → R A → Prop := fun as r => ∃ (self : PCourse) (number : Int), as = [eCourse ad self, aInt number] ∧ r = (Course_hour self number).map (fun z : (Int × Int × Int × Int × Bool) => aTup [aInt z.1, aInt z.2.1, aInt z.2.2.1, aInt z.2.2.2.1, aBool z.2.2.2.2])
theorem sd_Course_hour {X : Cx} {W : WX} {ad : Ads} {cl : Er → Addr} (T : Txt X.K X.mg ad cl) (F : Fc X W N_Course_hour sc_Course_hour 1) (hsc : X.env.scope = sc_Course_hour) (h_is_whole : FnX X "is_whole" 1 ["value", "low", "high"] (spOf cl 3 (I_is_whole X.K ad))) (h_Course_count : MeX X ad.Course "count" 1 ["self"] (spOf cl 1 (I_Course_count X.K ad))) (self : PCourse) (number : Int) :
    SK cl X W (defBody s_Course_hour) [] (gam N_Course_hour.length [eCourse ad self, aInt number]) (cv (fun t : (Int × Int × Int × Int × Bool) => Out.rt (aTup [aInt t.1, aInt t.2.1, aInt t.2.2.1, aInt t.2.2.2.1, aBool t.2.2.2.2])) (Course_hour self number)) := by
  unfold Course_hour
  refine sk_ifC (cv (fun t : (Int × Int × Int × Int × Bool) => Out.rt (aTup [aInt t.1, aInt t.2.1, aInt t.2.2.1, aInt t.2.2.2.1, aBool t.2.2.2.2]))) (td_not (td_val (ee_call F h_is_whole (ea_cons (ee_var F.b 1 rfl) (ea_cons (ee_int) (ea_cons (ee_sub (ee_meth0 F h_Course_count (ee_var F.b 0 rfl) ⟨self, rfl, rfl⟩ (by rfl)) (ee_int)) (ea_nil)))) ⟨number, (0 : Int), ((Course_count self) - (1 : Int)), rfl, rfl⟩))) (fun h3 => ?_) (fun h3 => ?_)
  · exact sk_raise F T.x_InvalidState (erp_none (fun _ => nofun)) Le.nil
  · refine sk_pop ?_
    refine sk_need (fun v1 h2 => ?_)
    exact sk_ret (ee_ixLm (f := (fun z : (Int × Int × Int × Int × Bool) => aTup [aInt z.1, aInt z.2.1, aInt z.2.2.1, aInt z.2.2.2.1, aBool z.2.2.2.2])) (ee_fld (ee_var F.b 0 rfl) T.c_Course T.a_Course_hours (by rfl)) (ee_var F.b 1 rfl) h2)
theorem ok_Course_hour {P : Program} {w : World} {K : PySem.W.Frag} {mg : Str → Option Value} {base : Heap} {ad : Ads} {cl : Er → Addr} {f : Addr} {fd : FuncData} (T : Txt K mg ad cl) (F : Fun K "hour" "Course.hour" s_Course_hour f fd) (h_is_whole : Fn P w K mg base "is_whole" 1 ["value", "low", "high"] (spOf cl 3 (I_is_whole K ad))) (h_Course_count : Me P w K mg base ad.Course "count" 1 ["self"] (spOf cl 1 (I_Course_count K ad))) :
    FnOk P w K mg base (L2.CX P w) 2 f fd ["self", "number"] (spOf cl 2 (I_Course_hour K ad)) := by
  refine fn_body (cl := cl) (I := I_Course_hour K ad) F fs_Course_hour rfl se_Course_hour ?_
  rintro cdv A1 outer s H E Fc as r ⟨self, number, rfl, rfl⟩ _
  exact ⟨_, finO_cv (f := (fun z : (Int × Int × Int × Int × Bool) => aTup [aInt z.1, aInt z.2.1, aInt z.2.2.1, aInt z.2.2.2.1, aBool z.2.2.2.2])) _, sd_Course_hour (X := cxOf (L2.CX P w) P w K mg base N_Course_hour "Course.hour" (defScope s_Course_hour) f cdv A1 outer s H E) T Fc rfl h_is_whole h_Course_count self number⟩

/-! Course.narrowed -/
abbrev s_Course_narrowed : Stmt := inClass (topS 9) 4
abbrev N_Course_narrowed : List Str := ["self", "number", "hour", "now"]
abbrev sc_Course_narrowed : Scope := {                   kind := PySem.ScopeKind.function,                   names := [                     (PySem.Str.ofString "self", PySem.NameKind.local),                     (PySem.Str.ofString "number", PySem.NameKind.local),                     (PySem.Str.ofString "hour", PySem.NameKind.local),                     (PySem.Str.ofString "now", PySem.NameKind.local),                     (PySem.Str.ofString "check_hour", PySem.NameKind.globalImplicit),                     (PySem.Str.ofString "InvalidCourse", PySem.NameKind.globalImplicit),                     (PySem.Str.ofString "Course", PySem.NameKind.globalImplicit),                     (PySem.Str.ofString "tuple", PySem.NameKind.globalImplicit)],                   isGenerator := false,                   isCoroutine := false,                   more := [] : PySem.Scope }
theorem fs_Course_narrowed : FnScope N_Course_narrowed ["self", "number", "hour"] (defScope s_Course_narrowed) := ⟨rfl, rfl, rfl, by decide +kernel, rfl, by decide +kernel, by decide +kernel⟩
theorem se_Course_narrowed : defScope s_Course_narrowed = sc_Course_narrowed := rfl
def I_Course_narrowed (K : PySem.W.Frag) (ad : Ads) : List A → R A → Prop := fun as r => ∃ (self : PCourse) (number : Int) (hour : (Int × Int × Int × Int × Bool)), as = [eCourse ad self, aInt number, aTup [aInt hour.1, aInt hour.2.1, aInt hour.2.2.1, aInt hour.2.2.2.1, aBool hour.2.2.2.2]] ∧ r = (Course_narrowed self number hour).map (eCourse ad)
theorem sd_Course_narrowed {X : Cx} {W : WX} {ad : Ads} {cl : Er → Addr} (T : Txt X.K X.mg ad cl) (F : Fc X W N_Course_narrowed sc_Course_narrowed 4) (hsc : X.env.scope = sc_Course_narrowed) (h_check_hour : FnX X "check_hour" 2 ["hour"] (spOf cl 1 (I_check_hour X.K ad))) (h_Course_hour : MeX X ad.Course "hour" 2 ["self", "number"] (spOf cl 2 (I_Course_hour X.K ad))) (h_Course___init__ : MaX X "Course" ad.Course 3 ["self", "hours"] (spIni cl 1 ad.Course (I_Course___init__ X.K ad))) (self : PCourse) (number : Int) (hour : (Int × Int × Int × Int × Bool)) :
    SK cl X W (defBody s_Course_narrowed) [] (gam N_Course_narrowed.length [eCourse ad self, aInt number, aTup [aInt hour.1, aInt hour.2.1, aInt hour.2.2.1, aInt hour.2.2.2.1, aBool hour.2.2.2.2]]) (cv (fun t : PCourse => Out.rt (eCourse ad t)) (Course_narrowed self number hour)) := by
  unfold Course_narrowed
  refine sk_exprR (ee_call F h_check_hour (ea_cons (ee_var F.b 2 rfl) (ea_nil)) ⟨hour, rfl, rfl⟩) (fun u1 h2 => ?_)
  refine sk_setR F.b 3 (ee_meth F h_Course_hour (ee_var F.b 0 rfl) (ea_cons (ee_var F.b 1 rfl) (ea_nil)) ⟨self, number, rfl, rfl⟩ (by rfl)) (fun now3 h4 => ?_)
  refine sk_ifC (cv (fun t : PCourse => Out.rt (eCourse ad t))) (td_w (tdw_orP (td_lt (ee_ixT (ee_var F.b 2 rfl) (ee_int) rfl) (ee_ixT (ee_var F.b 3 rfl) (ee_int) rfl)) (fun h8 => tdw_orP (td_gt (ee_ixT (ee_var F.b 2 rfl) (ee_int) rfl) (ee_ixT (ee_var F.b 3 rfl) (ee_int) rfl)) (fun h7 => tdw_orP (td_lt (ee_ixT (ee_var F.b 2 rfl) (ee_int) rfl) (ee_ixT (ee_var F.b 3 rfl) (ee_int) rfl)) (fun h6 => tdw_orP (td_gt (ee_ixT (ee_var F.b 2 rfl) (ee_int) rfl) (ee_ixT (ee_var F.b 3 rfl) (ee_int) rfl)) (fun h5 => tdw_or1 (td_neB (ee_ixT (ee_var F.b 2 rfl) (ee_int) rfl) (ee_ixT (ee_var F.b 3 rfl) (ee_int) rfl)))))))) (fun h13 => ?_) (fun h13 => ?_)
  · exact sk_raise F T.x_InvalidCourse (erp_none (fun _ => nofun)) Le.nil
  · refine sk_pop ?_
    refine sk_need (fun u10 g9 => ?_)
    refine sk_need (fun u12 g11 => ?_)
    exact sk_retR (ee_makeM F h_Course___init__ (ea_cons (ee_catM (f := (fun z : (Int × Int × Int × Int × Bool) => aTup [aInt z.1, aInt z.2.1, aInt z.2.2.1, aInt z.2.2.2.1, aBool z.2.2.2.2])) (ee_catM (f := (fun z : (Int × Int × Int × Int × Bool) => aTup [aInt z.1, aInt z.2.1, aInt z.2.2.1, aInt z.2.2.2.1, aBool z.2.2.2.2])) (ee_slLm (f := (fun z : (Int × Int × Int × Int × Bool) => aTup [aInt z.1, aInt z.2.1, aInt z.2.2.1, aInt z.2.2.2.1, aBool z.2.2.2.2])) (ee_fld (ee_var F.b 0 rfl) T.c_Course T.a_Course_hours (by rfl)) (eo_none) (eo_some (ee_var F.b 1 rfl))) (ee_lst (ea_cons (ee_tupT F.b T.b_tuple (ee_var F.b 2 rfl)) (ea_nil))) (gd_ok g9)) (ee_slLm (f := (fun z : (Int × Int × Int × Int × Bool) => aTup [aInt z.1, aInt z.2.1, aInt z.2.2.1, aInt z.2.2.2.1, aBool z.2.2.2.2])) (ee_fld (ee_var F.b 0 rfl) T.c_Course T.a_Course_hours (by rfl)) (eo_some (ee_add (ee_var F.b 1 rfl) (ee_int))) (eo_none)) (gd_ok g11)) (ea_nil)) ⟨(((cutL self.hours none (some number)) ++ ([hour] : (List (Int × Int × Int × Int × Bool)))) ++ (cutL self.hours (some ((number + (1 : Int)))) none)), rfl, rfl⟩)
theorem ok_Course_narrowed {P : Program} {w : World} {K : PySem.W.Frag} {mg : Str → Option Value} {base : Heap} {ad : Ads} {cl : Er → Addr} {f : Addr} {fd : FuncData} (T : Txt K mg ad cl) (F : Fun K "narrowed" "Course.narrowed" s_Course_narrowed f fd) (h_check_hour : Fn P w K mg base "check_hour" 2 ["hour"] (spOf cl 1 (I_check_hour K ad))) (h_Course_hour : Me P w K mg base ad.Course "hour" 2 ["self", "number"] (spOf cl 2 (I_Course_hour K ad))) (h_Course___init__ : Ma P w K mg base "Course" ad.Course 3 ["self", "hours"] (spIni cl 1 ad.Course (I_Course___init__ K ad))) :
    FnOk P w K mg base (L2.CX P w) 5 f fd ["self", "number", "hour"] (spOf cl 3 (I_Course_narrowed K ad)) := by
  refine fn_body (cl := cl) (I := I_Course_narrowed K ad) F fs_Course_narrowed rfl se_Course_narrowed ?_
  rintro cdv A1 outer s H E Fc as r ⟨self, number, hour, rfl, rfl⟩ _
  exact ⟨_, finO_cv (f := (eCourse ad)) _, sd_Course_narrowed (X := cxOf (L2.CX P w) P w K mg base N_Course_narrowed "Course.narrowed" (defScope s_Course_narrowed) f cdv A1 outer s H E) T Fc rfl h_check_hour h_Course_hour h_Course___init__ self number hour⟩

/-! _law_narrowed -/
abbrev s_L_narrowed : Stmt := topS 23
abbrev N_L_narrowed : List Str := ["_law_course", "_law_number", "_law_hour"]
abbrev sc_L_narrowed : Scope := {               kind := PySem.ScopeKind.function,               names := [                 (PySem.Str.ofString "_law_course", PySem.NameKind.local),                 (PySem.Str.ofString "_law_number", PySem.NameKind.local),                 (PySem.Str.ofString "_law_hour", PySem.NameKind.local),                 (PySem.Str.ofString "InvalidCourse", PySem.NameKind.globalImplicit)],               isGenerator := false,               isCoroutine := false,               more := [] : PySem.Scope }
theorem fs_L_narrowed : FnScope N_L_narrowed ["_law_course", "_law_number", "_law_hour"] (defScope s_L_narrowed) := ⟨rfl, rfl, rfl, by decide +kernel, rfl, by decide +kernel, by decide +kernel⟩
theorem se_L_narrowed : defScope s_L_narrowed = sc_L_narrowed := rfl
def I_L_narrowed (K : PySem.W.Frag) (ad : Ads) : List A → R A → Prop := fun as r => ∃ (course : PCourse) (number : Int) (hour : (Int × Int × Int × Int × Bool)), as = [eCourse ad course, aInt number, aTup [aInt hour.1, aInt hour.2.1, aInt hour.2.2.1, aInt hour.2.2.2.1, aBool hour.2.2.2.2]] ∧ r = (L_narrowed course number hour).map (fun z : (Option PCourse) => aOpt (eCourse ad) z)
theorem sd_L_narrowed {X : Cx} {W : WX} {ad : Ads} {cl : Er → Addr} (T : Txt X.K X.mg ad cl) (F : Fc X W N_L_narrowed sc_L_narrowed 5) (hsc : X.env.scope = sc_L_narrowed) (hst : X.stack = X.env :: X.outer) (hfr : X.env.frame = some X.env.locals) (h_Course_narrowed : MeX X ad.Course "narrowed" 5 ["self", "number", "hour"] (spOf cl 3 (I_Course_narrowed X.K ad))) (course : PCourse) (number : Int) (hour : (Int × Int × Int × Int × Bool)) :
    SK cl X W (defBody s_L_narrowed) [] (gam N_L_narrowed.length [eCourse ad course, aInt number, aTup [aInt hour.1, aInt hour.2.1, aInt hour.2.2.1, aInt hour.2.2.2.1, aBool hour.2.2.2.2]]) (cv (fun t : (Option PCourse) => Out.rt (aOpt (eCourse ad) t)) (L_narrowed course number hour)) := by
  unfold L_narrowed
  refine sk_try0 (ψ := (fun t : (Option PCourse) => aOpt (eCourse ad) t)) F (fun _ : Unit => [.im (eCourse ad course), .im (aInt number), .im (aTup [aInt hour.1, aInt hour.2.1, aInt hour.2.2.1, aInt hour.2.2.2.1, aBool hour.2.2.2.2])]) hst hfr ⟨F.b.gl _ rfl, by decide, .inl T.n_InvalidCourse⟩ (fun e _ => T.k_InvalidCourse e) (fun pn xe W2 F => ?_) (fun a oe pn e he hc Fs => ?_) (fun _ => ?_)
  · exact sk_retRb (ee_meth F h_Course_narrowed (ee_var F.b 0 rfl) (ea_cons (ee_var F.b 1 rfl) (ea_cons (ee_var F.b 2 rfl) (ea_nil))) ⟨course, number, hour, rfl, rfl⟩ (by rfl))
  · exact sk_ret (ee_non)
  · exact sk_bad
theorem ok_L_narrowed {P : Program} {w : World} {K : PySem.W.Frag} {mg : Str → Option Value} {base : Heap} {ad : Ads} {cl : Er → Addr} {f : Addr} {fd : FuncData} (T : Txt K mg ad cl) (F : Fun K "_law_narrowed" "_law_narrowed" s_L_narrowed f fd) (h_Course_narrowed : Me P w K mg base ad.Course "narrowed" 5 ["self", "number", "hour"] (spOf cl 3 (I_Course_narrowed K ad))) :
    FnOk P w K mg base (L2.CX P w) 6 f fd ["_law_course", "_law_number", "_law_hour"] (spOf cl 3 (I_L_narrowed K ad)) := by
  refine fn_body (cl := cl) (I := I_L_narrowed K ad) F fs_L_narrowed rfl se_L_narrowed ?_
  rintro cdv A1 outer s H E Fc as r ⟨course, number, hour, rfl, rfl⟩ _
  exact ⟨_, finO_cv (f := (fun z : (Option PCourse) => aOpt (eCourse ad) z)) _, sd_L_narrowed (X := cxOf (L2.CX P w) P w K mg base N_L_narrowed "_law_narrowed" (defScope s_L_narrowed) f cdv A1 outer s H E) T Fc rfl rfl rfl h_Course_narrowed course number hour⟩

/-! Course.has -/
abbrev s_Course_has : Stmt := inClass (topS 9) 3
abbrev N_Course_has : List Str := ["self", "number", "sea", "river", "low", "high", "least", "most", "ship"]
abbrev sc_Course_has : Scope := {                   kind := PySem.ScopeKind.function,                   names := [                     (PySem.Str.ofString "self", PySem.NameKind.local),                     (PySem.Str.ofString "number", PySem.NameKind.local),                     (PySem.Str.ofString "sea", PySem.NameKind.local),                     (PySem.Str.ofString "river", PySem.NameKind.local),                     (PySem.Str.ofString "low", PySem.NameKind.local),                     (PySem.Str.ofString "high", PySem.NameKind.local),                     (PySem.Str.ofString "least", PySem.NameKind.local),                     (PySem.Str.ofString "most", PySem.NameKind.local),                     (PySem.Str.ofString "ship", PySem.NameKind.local)],                   isGenerator := false,                   isCoroutine := false,                   more := [] : PySem.Scope }
theorem fs_Course_has : FnScope N_Course_has ["self", "number", "sea", "river"] (defScope s_Course_has) := ⟨rfl, rfl, rfl, by decide +kernel, rfl, by decide +kernel, by decide +kernel⟩
theorem se_Course_has : defScope s_Course_has = sc_Course_has := rfl
def I_Course_has (K : PySem.W.Frag) (ad : Ads) : List A → R A → Prop := fun as r => ∃ (self : PCourse) (number : Int) (sea : Int) (river : Int), as = [eCourse ad self, aInt number, aInt sea, aInt river] ∧ r = (Course_has self number sea river).map aBool
theorem sd_Course_has {X : Cx} {W : WX} {ad : Ads} {cl : Er → Addr} (T : Txt X.K X.mg ad cl) (F : Fc X W N_Course_has sc_Course_has 2) (hsc : X.env.scope = sc_Course_has) (h_Course_hour : MeX X ad.Course "hour" 2 ["self", "number"] (spOf cl 2 (I_Course_hour X.K ad))) (self : PCourse) (number : Int) (sea : Int) (river : Int) :
    SK cl X W (defBody s_Course_has) [] (gam N_Course_has.length [eCourse ad self, aInt number, aInt sea, aInt river]) (cv (fun t : Bool => Out.rt (aBool t)) (Course_has self number sea river)) := by
  unfold Course_has
  refine sk_asgR (ee_meth F h_Course_hour (ee_var F.b 0 rfl) (ea_cons (ee_var F.b 1 rfl) (ea_nil)) ⟨self, number, rfl, rfl⟩ (by rfl)) (fun t1 => ga_tup F.calm (gas_cons (ga_name F.b 4) (gas_cons (ga_name F.b 5) (gas_cons (ga_name F.b 6) (gas_cons (ga_name F.b 7) (gas_cons (ga_name F.b 8) (gas_nil))))))) (fun t1 h2 => ?_)
  exact sk_ret (ee_andP (ee_chain (g := fun i j => decide (i ≤ j)) (g' := fun i j => decide (i ≤ j)) op_le op_le (ee_var F.b 4 rfl) (ee_var F.b 2 rfl) (ee_var F.b 5 rfl)) (fun _ => ee_one (ee_chain (g := fun i j => decide (i ≤ j)) (g' := fun i j => decide (i ≤ j)) op_le op_le (ee_var F.b 6 rfl) (ee_var F.b 3 rfl) (ee_var F.b 7 rfl))))
theorem ok_Course_has {P : Program} {w : World} {K : PySem.W.Frag} {mg : Str → Option Value} {base : Heap} {ad : Ads} {cl : Er → Addr} {f : Addr} {fd : FuncData} (T : Txt K mg ad cl) (F : Fun K "has" "Course.has" s_Course_has f fd) (h_Course_hour : Me P w K mg base ad.Course "hour" 2 ["self", "number"] (spOf cl 2 (I_Course_hour K ad))) :
    FnOk P w K mg base (L2.CX P w) 3 f fd ["self", "number", "sea", "river"] (spOf cl 4 (I_Course_has K ad)) := by
  refine fn_body (cl := cl) (I := I_Course_has K ad) F fs_Course_has rfl se_Course_has ?_
  rintro cdv A1 outer s H E Fc as r ⟨self, number, sea, river, rfl, rfl⟩ _
  exact ⟨_, finO_cv (f := aBool) _, sd_Course_has (X := cxOf (L2.CX P w) P w K mg base N_Course_has "Course.has" (defScope s_Course_has) f cdv A1 outer s H E) T Fc rfl h_Course_hour self number sea river⟩

/-! Course.raised -/
abbrev s_Course_raised : Stmt := inClass (topS 9) 5
abbrev N_Course_raised : List Str := ["self", "surge", "low", "high", "least", "most", "ship"]
abbrev sc_Course_raised : Scope := {                   kind := PySem.ScopeKind.function,                   names := [                     (PySem.Str.ofString "self", PySem.NameKind.local),                     (PySem.Str.ofString "surge", PySem.NameKind.cell),                     (PySem.Str.ofString "Course", PySem.NameKind.globalImplicit)],                   isGenerator := false,                   isCoroutine := false,                   more := [                     (PySem.Str.ofString "fast", (PySem.Const.str "self")),                     (PySem.Str.ofString "fast", (PySem.Const.str "surge")),                     (PySem.Str.ofString "fast", (PySem.Const.str "low")),                     (PySem.Str.ofString "fast", (PySem.Const.str "high")),                     (PySem.Str.ofString "fast", (PySem.Const.str "least")),                     (PySem.Str.ofString "fast", (PySem.Const.str "most")),                     (PySem.Str.ofString "fast", (PySem.Const.str "ship"))] : PySem.Scope }
abbrev sc_Course_raised_c0 : Scope := {                               kind := PySem.ScopeKind.function,                               names := [                                 (PySem.Str.ofString ".0", PySem.NameKind.local),                                 (PySem.Str.ofString "low", PySem.NameKind.local),                                 (PySem.Str.ofString "high", PySem.NameKind.local),                                 (PySem.Str.ofString "least", PySem.NameKind.local),                                 (PySem.Str.ofString "most", PySem.NameKind.local),                                 (PySem.Str.ofString "ship", PySem.NameKind.local),                                 (PySem.Str.ofString "surge", PySem.NameKind.free)],                               isGenerator := false,                               isCoroutine := false,                               more := [] : PySem.Scope }
theorem fs_Course_raised : FnScope N_Course_raised ["self", "surge"] (defScope s_Course_raised) := ⟨rfl, rfl, rfl, by decide +kernel, rfl, by decide +kernel, by decide +kernel⟩
theorem se_Course_raised : defScope s_Course_raised = sc_Course_raised := rfl
def I_Course_raised (K : PySem.W.Frag) (ad : Ads) : List A → R A → Prop := fun as r => ∃ (self : PCourse) (surge : Int), as = [eCourse ad self, aInt surge] ∧ r = (Course_raised self surge).map (eCourse ad)
theorem sd_Course_raised {X : Cx} {W : WX} {ad : Ads} {cl : Er → Addr} (T : Txt X.K X.mg ad cl) (F : Fc X W N_Course_raised sc_Course_raised 4) (hsc : X.env.scope = sc_Course_raised) (h_Course___init__ : MaX X "Course" ad.Course 3 ["self", "hours"] (spIni cl 1 ad.Course (I_Course___init__ X.K ad))) (self : PCourse) (surge : Int) :
    SK cl X W (defBody s_Course_raised) [] (gam N_Course_raised.length [eCourse ad self, aInt surge]) (cv (fun t : PCourse => Out.rt (eCourse ad t)) (Course_raised self surge)) := by
  unfold Course_raised
  exact sk_retR (ee_makeM F h_Course___init__ (ea_cons (ee_lcMm F hsc (emb := (fun z : (Int × Int × Int × Int × Bool) => aTup [aInt z.1, aInt z.2.1, aInt z.2.2.1, aInt z.2.2.2.1, aBool z.2.2.2.2])) (g := (fun z : (Int × Int × Int × Int × Bool) => aTup [aInt z.1, aInt z.2.1, aInt z.2.2.1, aInt z.2.2.2.1, aBool z.2.2.2.2])) (out := fun x1 : (Int × Int × Int × Int × Bool) => (x1.1, (x1.2.1 + surge), x1.2.2.1, x1.2.2.2.1, x1.2.2.2.2)) [("low", 2), ("high", 3), ("least", 4), ("most", 5), ("ship", 6)] (ei_list (ee_fld (ee_var F.b 0 rfl) T.c_Course T.a_Course_hours (by rfl))) (fun s0 H0 C0 c0 fp0 x1 hx => have F2 := Fc.blk F s0 H0 C0 c0 fp0 sc_Course_raised_c0; ga_tup F2.calm (gas_cons (ga_name F2.b 2) (gas_cons (ga_name F2.b 3) (gas_cons (ga_name F2.b 4) (gas_cons (ga_name F2.b 5) (gas_cons (ga_name F2.b 6) (gas_nil))))))) (fun s0 H0 C0 c0 fp0 x1 hx => have F2 := Fc.blk F s0 H0 C0 c0 fp0 sc_Course_raised_c0; ee_tup (ea_cons (ee_var F2.b 2 rfl) (ea_cons (ee_add (ee_var F2.b 3 rfl) (ee_var F2.b 1 rfl)) (ea_cons (ee_var F2.b 4 rfl) (ea_cons (ee_var F2.b 5 rfl) (ea_cons (ee_var F2.b 6 rfl) (ea_nil)))))))) (ea_nil)) ⟨(List.map (fun x1 : (Int × Int × Int × Int × Bool) => (x1.1, (x1.2.1 + surge), x1.2.2.1, x1.2.2.2.1, x1.2.2.2.2)) self.hours), rfl, rfl⟩)
theorem ok_Course_raised {P : Program} {w : World} {K : PySem.W.Frag} {mg : Str → Option Value} {base : Heap} {ad : Ads} {cl : Er → Addr} {f : Addr} {fd : FuncData} (T : Txt K mg ad cl) (F : Fun K "raised" "Course.raised" s_Course_raised f fd) (h_Course___init__ : Ma P w K mg base "Course" ad.Course 3 ["self", "hours"] (spIni cl 1 ad.Course (I_Course___init__ K ad))) :
    FnOk P w K mg base (L2.CX P w) 5 f fd ["self", "surge"] (spOf cl 2 (I_Course_raised K ad)) := by
  refine fn_body (cl := cl) (I := I_Course_raised K ad) F fs_Course_raised rfl se_Course_raised ?_
  rintro cdv A1 outer s H E Fc as r ⟨self, surge, rfl, rfl⟩ _
  exact ⟨_, finO_cv (f := (eCourse ad)) _, sd_Course_raised (X := cxOf (L2.CX P w) P w K mg base N_Course_raised "Course.raised" (defScope s_Course_raised) f cdv A1 outer s H E) T Fc rfl h_Course___init__ self surge⟩

/-! _law_too_high -/
abbrev s_L_too_high : Stmt := topS 24
abbrev N_L_too_high : List Str := ["_law_course", "_law_surge"]
abbrev sc_L_too_high : Scope := {               kind := PySem.ScopeKind.function,               names := [                 (PySem.Str.ofString "_law_course", PySem.NameKind.local),                 (PySem.Str.ofString "_law_surge", PySem.NameKind.local),                 (PySem.Str.ofString "InvalidCourse", PySem.NameKind.globalImplicit)],               isGenerator := false,               isCoroutine := false,               more := [] : PySem.Scope }
theorem fs_L_too_high : FnScope N_L_too_high ["_law_course", "_law_surge"] (defScope s_L_too_high) := ⟨rfl, rfl, rfl, by decide +kernel, rfl, by decide +kernel, by decide +kernel⟩
theorem se_L_too_high : defScope s_L_too_high = sc_L_too_high := rfl
def I_L_too_high (K : PySem.W.Frag) (ad : Ads) : List A → R A → Prop := fun as r => ∃ (course : PCourse) (surge : Int), as = [eCourse ad course, aInt surge] ∧ r = (L_too_high course surge).map aBool
theorem sd_L_too_high {X : Cx} {W : WX} {ad : Ads} {cl : Er → Addr} (T : Txt X.K X.mg ad cl) (F : Fc X W N_L_too_high sc_L_too_high 5) (hsc : X.env.scope = sc_L_too_high) (hst : X.stack = X.env :: X.outer) (hfr : X.env.frame = some X.env.locals) (h_Course_raised : MeX X ad.Course "raised" 5 ["self", "surge"] (spOf cl 2 (I_Course_raised X.K ad))) (course : PCourse) (surge : Int) :
    SK cl X W (defBody s_L_too_high) [] (gam N_L_too_high.length [eCourse ad course, aInt surge]) (cv (fun t : Bool => Out.rt (aBool t)) (L_too_high course surge)) := by
  unfold L_too_high
  refine sk_try0 (ψ := (fun t : Bool => aBool t)) F (fun _ : Unit => [.im (eCourse ad course), .im (aInt surge)]) hst hfr ⟨F.b.gl _ rfl, by decide, .inl T.n_InvalidCourse⟩ (fun e _ => T.k_InvalidCourse e) (fun pn xe W2 F => ?_) (fun a oe pn e he hc Fs => ?_) (fun _ => ?_)
  · refine sk_exprR (ee_meth F h_Course_raised (ee_var F.b 0 rfl) (ea_cons (ee_var F.b 1 rfl) (ea_nil)) ⟨course, surge, rfl, rfl⟩ (by rfl)) (fun u1 h2 => ?_)
    exact sk_end (Le.same (Le.same (Le.nil)))
  · exact sk_ret (ee_bl)
  · exact sk_ret (ee_bl)
theorem ok_L_too_high {P : Program} {w : World} {K : PySem.W.Frag} {mg : Str → Option Value} {base : Heap} {ad : Ads} {cl : Er → Addr} {f : Addr} {fd : FuncData} (T : Txt K mg ad cl) (F : Fun K "_law_too_high" "_law_too_high" s_L_too_high f fd) (h_Course_raised : Me P w K mg base ad.Course "raised" 5 ["self", "surge"] (spOf cl 2 (I_Course_raised K ad))) :
    FnOk P w K mg base (L2.CX P w) 6 f fd ["_law_course", "_law_surge"] (spOf cl 2 (I_L_too_high K ad)) := by
  refine fn_body (cl := cl) (I := I_L_too_high K ad) F fs_L_too_high rfl se_L_too_high ?_
  rintro cdv A1 outer s H E Fc as r ⟨course, surge, rfl, rfl⟩ _
  exact ⟨_, finO_cv (f := aBool) _, sd_L_too_high (X := cxOf (L2.CX P w) P w K mg base N_L_too_high "_law_too_high" (defScope s_L_too_high) f cdv A1 outer s H E) T Fc rfl rfl rfl h_Course_raised course surge⟩

/-! law -/
abbrev s_law : Stmt := topS 25
abbrev N_law : List Str := ["_law_script", "_law_hours_here", "_law_course", "_law_cell_here", "_law_number", "_law_old", "_law_change", "_law_new", "_law_ship", "_law_fits", "_law_told", "_law_sea", "_law_river", "_law_surge", "_law_raised", "_law_highest", "_law_k", "_law_row"]
abbrev sc_law : Scope := {               kind := PySem.ScopeKind.function,               names := [                 (PySem.Str.ofString "_law_script", PySem.NameKind.local),                 (PySem.Str.ofString "_law_hours_here", PySem.NameKind.local),                 (PySem.Str.ofString "_law_course", PySem.NameKind.cell),                 (PySem.Str.ofString "_law_cell_here", PySem.NameKind.local),                 (PySem.Str.ofString "_law_number", PySem.NameKind.local),                 (PySem.Str.ofString "_law_old", PySem.NameKind.cell),                 (PySem.Str.ofString "_law_change", PySem.NameKind.cell),                 (PySem.Str.ofString "_law_new", PySem.NameKind.local),                 (PySem.Str.ofString "_law_ship", PySem.NameKind.local),                 (PySem.Str.ofString "_law_fits", PySem.NameKind.local),                 (PySem.Str.ofString "_law_told", PySem.NameKind.local),                 (PySem.Str.ofString "_law_sea", PySem.NameKind.local),                 (PySem.Str.ofString "_law_river", PySem.NameKind.local),                 (PySem.Str.ofString "_law_surge", PySem.NameKind.cell),                 (PySem.Str.ofString "_law_raised", PySem.NameKind.local),                 (PySem.Str.ofString "_law_highest", PySem.NameKind.cell),                 (PySem.Str.ofString "_law_hours", PySem.NameKind.globalImplicit),                 (PySem.Str.ofString "Course", PySem.NameKind.globalImplicit),                 (PySem.Str.ofString "len", PySem.NameKind.globalImplicit),                 (PySem.Str.ofString "range", PySem.NameKind.globalImplicit),                 (PySem.Str.ofString "int", PySem.NameKind.globalImplicit),                 (PySem.Str.ofString "_law_narrowed", PySem.NameKind.globalImplicit),                 (PySem.Str.ofString "_law_cell", PySem.NameKind.globalImplicit),                 (PySem.Str.ofString "max", PySem.NameKind.globalImplicit),                 (PySem.Str.ofString "_law_too_high", PySem.NameKind.globalImplicit)],               isGenerator := false,               isCoroutine := false,               more := [                 (PySem.Str.ofString "fast", (PySem.Const.str "_law_script")),                 (PySem.Str.ofString "fast", (PySem.Const.str "_law_hours_here")),                 (PySem.Str.ofString "fast", (PySem.Const.str "_law_course")),                 (PySem.Str.ofString "fast", (PySem.Const.str "_law_k")),                 (PySem.Str.ofString "fast", (PySem.Const.str "_law_cell_here")),                 (PySem.Str.ofString "fast", (PySem.Const.str "_law_number")),                 (PySem.Str.ofString "fast", (PySem.Const.str "_law_old")),                 (PySem.Str.ofString "fast", (PySem.Const.str "_law_change")),                 (PySem.Str.ofString "fast", (PySem.Const.str "_law_new")),                 (PySem.Str.ofString "fast", (PySem.Const.str "_law_ship")),                 (PySem.Str.ofString "fast", (PySem.Const.str "_law_fits")),                 (PySem.Str.ofString "fast", (PySem.Const.str "_law_told")),                 (PySem.Str.ofString "fast", (PySem.Const.str "_law_sea")),                 (PySem.Str.ofString "fast", (PySem.Const.str "_law_river")),                 (PySem.Str.ofString "fast", (PySem.Const.str "_law_surge")),                 (PySem.Str.ofString "fast", (PySem.Const.str "_law_raised")),                 (PySem.Str.ofString "fast", (PySem.Const.str "_law_row")),                 (PySem.Str.ofString "fast", (PySem.Const.str "_law_highest"))] : PySem.Scope }
abbrev sc_law_c0 : Scope := {                           kind := PySem.ScopeKind.function,                           names := [                             (PySem.Str.ofString ".0", PySem.NameKind.local),                             (PySem.Str.ofString "_law_k", PySem.NameKind.local),                             (PySem.Str.ofString "_law_course", PySem.NameKind.free)],                           isGenerator := false,                           isCoroutine := false,                           more := [] : PySem.Scope }
abbrev sc_law_c1 : Scope := {                         kind := PySem.ScopeKind.function,                         names := [                           (PySem.Str.ofString ".0", PySem.NameKind.local),                           (PySem.Str.ofString "_law_k", PySem.NameKind.local),                           (PySem.Str.ofString "_law_change", PySem.NameKind.free),                           (PySem.Str.ofString "_law_old", PySem.NameKind.free)],                         isGenerator := false,                         isCoroutine := false,                         more := [] : PySem.Scope }
abbrev sc_law_c2 : Scope := {                         kind := PySem.ScopeKind.function,                         names := [                           (PySem.Str.ofString ".0", PySem.NameKind.local),                           (PySem.Str.ofString "_law_row", PySem.NameKind.local),                           (PySem.Str.ofString "_law_surge", PySem.NameKind.free)],                         isGenerator := false,                         isCoroutine := false,                         more := [] : PySem.Scope }
abbrev sc_law_c3 : Scope := {                           kind := PySem.ScopeKind.function,                           names := [(PySem.Str.ofString ".0", PySem.NameKind.local), (PySem.Str.ofString "_law_row", PySem.NameKind.local)],                           isGenerator := false,                           isCoroutine := false,                           more := [] : PySem.Scope }
abbrev sc_law_c4 : Scope := {                         kind := PySem.ScopeKind.function,                         names := [                           (PySem.Str.ofString ".0", PySem.NameKind.local),                           (PySem.Str.ofString "_law_row", PySem.NameKind.local),                           (PySem.Str.ofString "_law_highest", PySem.NameKind.free)],                         isGenerator := false,                         isCoroutine := false,                         more := [] : PySem.Scope }
theorem fs_law : FnScope N_law ["_law_script"] (defScope s_law) := ⟨rfl, rfl, rfl, by decide +kernel, rfl, by decide +kernel, by decide +kernel⟩
theorem se_law : defScope s_law = sc_law := rfl
def I_law (K : PySem.W.Frag) (ad : Ads) : List A → R A → Prop := fun as r => ∃ (script : List Int), as = [aScr K script] ∧ r = (law script).map aBool
theorem sd_law {X : Cx} {W : WX} {ad : Ads} {cl : Er → Addr} (T : Txt X.K X.mg ad cl) (F : Fc X W N_law sc_law 6) (hsc : X.env.scope = sc_law) (h_L_hours : FnX X "_law_hours" 2 ["_law_script", "_law_most"] (spOf cl 2 (I_L_hours X.K ad))) (h_Course___init__ : MaX X "Course" ad.Course 3 ["self", "hours"] (spIni cl 1 ad.Course (I_Course___init__ X.K ad))) (h_Course_count : MeX X ad.Course "count" 1 ["self"] (spOf cl 1 (I_Course_count X.K ad))) (h_Course_hour : MeX X ad.Course "hour" 2 ["self", "number"] (spOf cl 2 (I_Course_hour X.K ad))) (h_L_narrowed : FnX X "_law_narrowed" 6 ["_law_course", "_law_number", "_law_hour"] (spOf cl 3 (I_L_narrowed X.K ad))) (h_Course_has : MeX X ad.Course "has" 3 ["self", "number", "sea", "river"] (spOf cl 4 (I_Course_has X.K ad))) (h_L_cell : FnX X "_law_cell" 1 ["_law_script", "_law_k"] (spOf cl 2 (I_L_cell X.K ad))) (h_Course_raised : MeX X ad.Course "raised" 5 ["self", "surge"] (spOf cl 2 (I_Course_raised X.K ad))) (h_L_too_high : FnX X "_law_too_high" 6 ["_law_course", "_law_surge"] (spOf cl 2 (I_L_too_high X.K ad))) (script : List Int) :
    SK cl X W (defBody s_law) [] (gam N_law.length [aScr X.K script]) (cv (fun t : Bool => Out.rt (aBool t)) (law script)) := by
  unfold law
  refine sk_setR F.b 1 (ee_call F h_L_hours (ea_cons (ee_var F.b 0 rfl) (ea_cons (ee_int) (ea_nil))) ⟨script, (8 : Int), rfl, rfl⟩) (fun hours_here1 h2 => ?_)
  refine sk_setR F.b 2 (ee_makeM F h_Course___init__ (ea_cons (ee_var F.b 1 rfl) (ea_nil)) ⟨hours_here1, rfl, rfl⟩) (fun course3 h4 => ?_)
  refine sk_ifR (td_w (tdw_or (td_neD (f := (fun z : (List (Int × Int × Int × Int × Bool)) => aLst (List.map (fun z : (Int × Int × Int × Int × Bool) => aTup [aInt z.1, aInt z.2.1, aInt z.2.2.1, aInt z.2.2.2.1, aBool z.2.2.2.2]) z))) (x := course3.hours) (y := hours_here1) F (codLst (codTup (codSc codInt (codSc codInt (codSc codInt (codSc codInt (codS1 codBool))))))) (ee_fld (ee_var F.b 2 rfl) T.c_Course T.a_Course_hours (by rfl)) (ee_var F.b 1 rfl)) (fun h14 => tdw_or (td_neI (ee_meth0 F h_Course_count (ee_var F.b 2 rfl) ⟨course3, rfl, rfl⟩ (by rfl)) (ee_lenLm (f := (fun z : (Int × Int × Int × Int × Bool) => aTup [aInt z.1, aInt z.2.1, aInt z.2.2.1, aInt z.2.2.2.1, aBool z.2.2.2.2])) F.b T.b_len (ee_var F.b 1 rfl))) (fun h13 => tdw_or1 (td_need (fun u6 g5 => td_need (fun v11 h12 => td_neD (f := (fun z : (List (Int × Int × Int × Int × Bool)) => aLst (List.map (fun z : (Int × Int × Int × Int × Bool) => aTup [aInt z.1, aInt z.2.1, aInt z.2.2.1, aInt z.2.2.2.1, aBool z.2.2.2.2]) z))) (x := v11) (y := hours_here1) F (codLst (codTup (codSc codInt (codSc codInt (codSc codInt (codSc codInt (codS1 codBool))))))) (ee_lcR F hsc (emb := aInt) (g := (fun z : (Int × Int × Int × Int × Bool) => aTup [aInt z.1, aInt z.2.1, aInt z.2.2.1, aInt z.2.2.2.1, aBool z.2.2.2.2])) [("_law_k", 16)] (ei_range1 (bd := true) F.b T.b_range (ee_lenLm (f := (fun z : (Int × Int × Int × Int × Bool) => aTup [aInt z.1, aInt z.2.1, aInt z.2.2.1, aInt z.2.2.2.1, aBool z.2.2.2.2])) F.b T.b_len (ee_var F.b 1 rfl)) (RngS.r (gd_ok g5)) (RngS.s0 (gd_ok g5))) (fun s0 H0 C0 c0 fp0 x7 hx => have F8 := Fc.blk F s0 H0 C0 c0 fp0 sc_law_c0; ga_name F8.b 16) h12 (fun s0 H0 C0 c0 fp0 x7 yv hx hy => have F8 := Fc.blk F s0 H0 C0 c0 fp0 sc_law_c0; ee_at (f := (fun z : (Int × Int × Int × Int × Bool) => aTup [aInt z.1, aInt z.2.1, aInt z.2.2.1, aInt z.2.2.2.1, aBool z.2.2.2.2])) (ee_needM (f := (fun z : (Int × Int × Int × Int × Bool) => aTup [aInt z.1, aInt z.2.1, aInt z.2.2.1, aInt z.2.2.2.1, aBool z.2.2.2.2])) (fun v9 h10 => ee_at (f := (fun z : (Int × Int × Int × Int × Bool) => aTup [aInt z.1, aInt z.2.1, aInt z.2.2.1, aInt z.2.2.2.1, aBool z.2.2.2.2])) (ee_meth F8 h_Course_hour (ee_var F8.b 2 rfl) (ea_cons (ee_var F8.b 16 rfl) (ea_nil)) ⟨course3, x7, rfl, rfl⟩ (by rfl)) h10)) hy)) (ee_var F.b 1 rfl)))))))) (fun h134 => ?_) (fun h134 => ?_)
  · exact sk_ret (ee_bl)
  · refine sk_pop ?_
    refine sk_need (fun u16 g15 => ?_)
    refine sk_for (ψ := (fun t : Bool => aBool t)) (emb := aInt) F (fun s17 : Unit => [.im (aScr X.K script), .im (aLst (List.map (fun z : (Int × Int × Int × Int × Bool) => aTup [aInt z.1, aInt z.2.1, aInt z.2.2.1, aInt z.2.2.2.1, aBool z.2.2.2.2]) hours_here1)), .im (eCourse ad course3), .un, .un, .un, .un, .un, .un, .un, .un, .un, .un, .un, .un, .un, .un, .un]) _ (ei_list (ee_catM (f := aInt) (ee_slScr (ee_var F.b 0 rfl) (eo_some (ee_int)) (eo_some (ee_int))) (ee_lst (ea_cons (ee_int) (ea_cons (ee_int) (ea_nil)))) (gd_ok g15))) (Le.same (Le.same (Le.same (Le.un (Le.un (Le.un (Le.un (Le.un (Le.un (Le.un (Le.un (Le.un (Le.un (Le.un (Le.un (Le.un (Le.un (Le.un (Le.nil))))))))))))))))))) (fun s17 x18 hx133 => ga_name F.b 3) (fun s17 x18 hx133 => ?_) (fun s104 => ?_)
    · refine sk_need (fun u22 g21 => ?_)
      refine sk_setL (f := aInt) (cv (lo (fun s17 : Unit => [.im (aScr X.K script), .im (aLst (List.map (fun z : (Int × Int × Int × Int × Bool) => aTup [aInt z.1, aInt z.2.1, aInt z.2.2.1, aInt z.2.2.2.1, aBool z.2.2.2.2]) hours_here1)), .im (eCourse ad course3), .un, .un, .un, .un, .un, .un, .un, .un, .un, .un, .un, .un, .un, .un, .un]) (fun t : Bool => aBool t))) F.b 4 (ee_mod (ee_intI F.b T.b_int (ee_var F.b 3 rfl)) (ee_lenLm (f := (fun z : (Int × Int × Int × Int × Bool) => aTup [aInt z.1, aInt z.2.1, aInt z.2.2.1, aInt z.2.2.2.1, aBool z.2.2.2.2])) F.b T.b_len (ee_var F.b 1 rfl)) (gd_ok g21)) (fun number19 h20 => ?_)
      refine sk_need (fun v25 h26 => ?_)
      refine sk_setL (f := (fun z : (Int × Int × Int × Int × Bool) => aTup [aInt z.1, aInt z.2.1, aInt z.2.2.1, aInt z.2.2.2.1, aBool z.2.2.2.2])) (cv (lo (fun s17 : Unit => [.im (aScr X.K script), .im (aLst (List.map (fun z : (Int × Int × Int × Int × Bool) => aTup [aInt z.1, aInt z.2.1, aInt z.2.2.1, aInt z.2.2.2.1, aBool z.2.2.2.2]) hours_here1)), .im (eCourse ad course3), .un, .un, .un, .un, .un, .un, .un, .un, .un, .un, .un, .un, .un, .un, .un]) (fun t : Bool => aBool t))) F.b 5 (ee_ixLm (f := (fun z : (Int × Int × Int × Int × Bool) => aTup [aInt z.1, aInt z.2.1, aInt z.2.2.1, aInt z.2.2.2.1, aBool z.2.2.2.2])) (ee_var F.b 1 rfl) (ee_var F.b 4 rfl) h26) (fun old23 h24 => ?_)
      refine sk_setL (f := (fun z : (Int × Int × Int × Int) => aLst [aInt z.1, aInt z.2.1, aInt z.2.2.1, aInt z.2.2.2])) (cv (lo (fun s17 : Unit => [.im (aScr X.K script), .im (aLst (List.map (fun z : (Int × Int × Int × Int × Bool) => aTup [aInt z.1, aInt z.2.1, aInt z.2.2.1, aInt z.2.2.2.1, aBool z.2.2.2.2]) hours_here1)), .im (eCourse ad course3), .un, .un, .un, .un, .un, .un, .un, .un, .un, .un, .un, .un, .un, .un, .un]) (fun t : Bool => aBool t))) F.b 6 (ee_lst (ea_cons (ee_sub (ee_mod (ee_div (ee_intI F.b T.b_int (ee_var F.b 3 rfl)) (ee_int) ⟨by decide, by decide⟩) (ee_int) (by decide)) (ee_int)) (ea_cons (ee_sub (ee_mod (ee_div (ee_intI F.b T.b_int (ee_var F.b 3 rfl)) (ee_int) ⟨by decide, by decide⟩) (ee_int) (by decide)) (ee_int)) (ea_cons (ee_sub (ee_mod (ee_div (ee_intI F.b T.b_int (ee_var F.b 3 rfl)) (ee_int) ⟨by decide, by decide⟩) (ee_int) (by decide)) (ee_int)) (ea_cons (ee_sub (ee_mod (ee_div (ee_intI F.b T.b_int (ee_var F.b 3 rfl)) (ee_int) ⟨by decide, by decide⟩) (ee_int) (by decide)) (ee_int)) (ea_nil)))))) (fun change27 h28 => ?_)
      refine sk_need (fun v37 h38 => ?_)
      refine sk_lcR F hsc 7 (emb := aInt) (g := aInt) [("_law_k", 16)] (ei_range1 (bd := true) F.b T.b_range (ee_int) (RngS.r (show RngS 0 4 by decide)) (RngS.s0 (show RngS 0 4 by decide))) (fun s0 H0 C0 c0 fp0 x29 hx => have F30 := Fc.blk F s0 H0 C0 c0 fp0 sc_law_c1; ga_name F30.b 16) h38 (fun s0 H0 C0 c0 fp0 x29 yv hx hy => have F30 := Fc.blk F s0 H0 C0 c0 fp0 sc_law_c1; ee_at (f := aInt) (ee_needM (f := aInt) (fun u34 g33 => ee_needM (f := aInt) (fun v31 h32 => ee_needM (f := aInt) (fun v35 h36 => ee_add (ee_ixT (ee_var F30.b 5 rfl) (ee_var F30.b 16 rfl) (atI_pre (f := aInt) (ys := [aBool old23.2.2.2.2]) (gd_ok g33) (idxR_ok h32))) (ee_ixLm (f := aInt) (ee_var F30.b 6 rfl) (ee_var F30.b 16 rfl) h36))))) hy) ?_
      refine sk_setL (f := aBool) (cv (lo (fun s17 : Unit => [.im (aScr X.K script), .im (aLst (List.map (fun z : (Int × Int × Int × Int × Bool) => aTup [aInt z.1, aInt z.2.1, aInt z.2.2.1, aInt z.2.2.2.1, aBool z.2.2.2.2]) hours_here1)), .im (eCourse ad course3), .un, .un, .un, .un, .un, .un, .un, .un, .un, .un, .un, .un, .un, .un, .un]) (fun t : Bool => aBool t))) F.b 8 (ee_neB (ee_ixT (ee_var F.b 5 rfl) (ee_int) rfl) (ee_eqI (ee_mod (ee_div (ee_intI F.b T.b_int (ee_var F.b 3 rfl)) (ee_int) ⟨by decide, by decide⟩) (ee_int) (by decide)) (ee_int))) (fun ship41 h42 => ?_)
      refine sk_need (fun v45 h46 => ?_)
      refine sk_need (fun v53 h54 => ?_)
      refine sk_setL (f := aBool) (cv (lo (fun s17 : Unit => [.im (aScr X.K script), .im (aLst (List.map (fun z : (Int × Int × Int × Int × Bool) => aTup [aInt z.1, aInt z.2.1, aInt z.2.2.1, aInt z.2.2.2.1, aBool z.2.2.2.2]) hours_here1)), .im (eCourse ad course3), .un, .un, .un, .un, .un, .un, .un, .un, .un, .un, .un, .un, .un, .un, .un]) (fun t : Bool => aBool t))) F.b 9 (ee_at (f := aBool) (ee_andR (ee_ge (ee_ixLm (f := aInt) (ee_var F.b 7 rfl) (ee_int) h46) (ee_ixT (ee_var F.b 5 rfl) (ee_int) rfl)) (fun _ => ee_needM (f := aBool) (fun v47 h48 => ee_andR (ee_le (ee_ixLm (f := aInt) (ee_var F.b 7 rfl) (ee_int) h48) (ee_ixT (ee_var F.b 5 rfl) (ee_int) rfl)) (fun _ => ee_needM (f := aBool) (fun v49 h50 => ee_andR (ee_ge (ee_ixLm (f := aInt) (ee_var F.b 7 rfl) (ee_int) h50) (ee_ixT (ee_var F.b 5 rfl) (ee_int) rfl)) (fun _ => ee_needM (f := aBool) (fun v51 h52 => ee_andR (ee_le (ee_ixLm (f := aInt) (ee_var F.b 7 rfl) (ee_int) h52) (ee_ixT (ee_var F.b 5 rfl) (ee_int) rfl)) (fun _ => ee_one (ee_eqB (ee_var F.b 8 rfl) (ee_ixT (ee_var F.b 5 rfl) (ee_int) rfl)))))))))) h54) (fun fits43 h44 => ?_)
      refine sk_need (fun v65 h66 => ?_)
      refine sk_setL (f := aBool) (cv (lo (fun s17 : Unit => [.im (aScr X.K script), .im (aLst (List.map (fun z : (Int × Int × Int × Int × Bool) => aTup [aInt z.1, aInt z.2.1, aInt z.2.2.1, aInt z.2.2.2.1, aBool z.2.2.2.2]) hours_here1)), .im (eCourse ad course3), .un, .un, .un, .un, .un, .un, .un, .un, .un, .un, .un, .un, .un, .un, .un]) (fun t : Bool => aBool t))) F.b 9 (ee_at (f := aBool) (ee_andR (ee_var F.b 9 rfl) (fun _ => ee_needM (f := aBool) (fun v57 h58 => ee_needM (f := aBool) (fun v59 h60 => ee_andR (ee_le (ee_ixLm (f := aInt) (ee_var F.b 7 rfl) (ee_int) h58) (ee_ixLm (f := aInt) (ee_var F.b 7 rfl) (ee_int) h60)) (fun _ => ee_one (ee_needM (f := aBool) (fun v61 h62 => ee_needM (f := aBool) (fun v63 h64 => ee_le (ee_ixLm (f := aInt) (ee_var F.b 7 rfl) (ee_int) h62) (ee_ixLm (f := aInt) (ee_var F.b 7 rfl) (ee_int) h64))))))))) h66) (fun fits55 h56 => ?_)
      refine sk_need (fun v67 h68 => ?_)
      refine sk_need (fun v69 h70 => ?_)
      refine sk_need (fun v71 h72 => ?_)
      refine sk_need (fun v73 h74 => ?_)
      refine sk_setR F.b 10 (ee_call F h_L_narrowed (ea_cons (ee_var F.b 2 rfl) (ea_cons (ee_var F.b 4 rfl) (ea_cons (ee_tup (ea_cons (ee_ixLm (f := aInt) (ee_var F.b 7 rfl) (ee_int) h68) (ea_cons (ee_ixLm (f := aInt) (ee_var F.b 7 rfl) (ee_int) h70) (ea_cons (ee_ixLm (f := aInt) (ee_var F.b 7 rfl) (ee_int) h72) (ea_cons (ee_ixLm (f := aInt) (ee_var F.b 7 rfl) (ee_int) h74) (ea_cons (ee_var F.b 8 rfl) (ea_nil))))))) (ea_nil)))) ⟨course3, number19, (v67, v69, v71, v73, ship41), rfl, rfl⟩) (fun told75 h76 => ?_)
      refine sk_ifC (cv (lo (fun s17 : Unit => [.im (aScr X.K script), .im (aLst (List.map (fun z : (Int × Int × Int × Int × Bool) => aTup [aInt z.1, aInt z.2.1, aInt z.2.2.1, aInt z.2.2.2.1, aBool z.2.2.2.2]) hours_here1)), .im (eCourse ad course3), .un, .un, .un, .un, .un, .un, .un, .un, .un, .un, .un, .un, .un, .un, .un]) (fun t : Bool => aBool t))) (td_neB (ee_notN (ee_var F.b 10 rfl) (nonA_opt (fun _ => nonA_ins) _)) (ee_var F.b 9 rfl)) (fun h103 => ?_) (fun h103 => ?_)
      · exact sk_ret (ee_bl)
      · refine sk_pop ?_
        refine sk_ifR (td_w (tdw_and (td_val (ee_var F.b 9 rfl)) (fun h91 => tdw_and1 (td_need (fun v77 h78 => td_need (fun v79 h80 => td_need (fun v81 h82 => td_need (fun v83 h84 => td_need (fun v85 h86 => td_need (fun u88 g87 => td_need (fun u90 g89 => td_neD (f := (fun z : (List (Int × Int × Int × Int × Bool)) => aLst (List.map (fun z : (Int × Int × Int × Int × Bool) => aTup [aInt z.1, aInt z.2.1, aInt z.2.2.1, aInt z.2.2.2.1, aBool z.2.2.2.2]) z))) (x := v77.hours) (y := (((cutL hours_here1 none (some number19)) ++ ([(v79, v81, v83, v85, ship41)] : (List (Int × Int × Int × Int × Bool)))) ++ (cutL hours_here1 (some ((number19 + (1 : Int)))) none))) F (codLst (codTup (codSc codInt (codSc codInt (codSc codInt (codSc codInt (codS1 codBool))))))) (ee_fld (ee_optAt (f := (eCourse ad)) h78 (ee_var F.b 10 rfl)) T.c_Course T.a_Course_hours (by rfl)) (ee_catM (f := (fun z : (Int × Int × Int × Int × Bool) => aTup [aInt z.1, aInt z.2.1, aInt z.2.2.1, aInt z.2.2.2.1, aBool z.2.2.2.2])) (ee_catM (f := (fun z : (Int × Int × Int × Int × Bool) => aTup [aInt z.1, aInt z.2.1, aInt z.2.2.1, aInt z.2.2.2.1, aBool z.2.2.2.2])) (ee_slLm (f := (fun z : (Int × Int × Int × Int × Bool) => aTup [aInt z.1, aInt z.2.1, aInt z.2.2.1, aInt z.2.2.2.1, aBool z.2.2.2.2])) (ee_var F.b 1 rfl) (eo_none) (eo_some (ee_var F.b 4 rfl))) (ee_lst (ea_cons (ee_tup (ea_cons (ee_ixLm (f := aInt) (ee_var F.b 7 rfl) (ee_int) h80) (ea_cons (ee_ixLm (f := aInt) (ee_var F.b 7 rfl) (ee_int) h82) (ea_cons (ee_ixLm (f := aInt) (ee_var F.b 7 rfl) (ee_int) h84) (ea_cons (ee_ixLm (f := aInt) (ee_var F.b 7 rfl) (ee_int) h86) (ea_cons (ee_var F.b 8 rfl) (ea_nil))))))) (ea_nil))) (gd_ok g87)) (ee_slLm (f := (fun z : (Int × Int × Int × Int × Bool) => aTup [aInt z.1, aInt z.2.1, aInt z.2.2.1, aInt z.2.2.2.1, aBool z.2.2.2.2])) (ee_var F.b 1 rfl) (eo_some (ee_add (ee_var F.b 4 rfl) (ee_int))) (eo_none)) (gd_ok g89))))))))))))) (fun h101 => ?_) (fun h101 => ?_)
        · exact sk_ret (ee_bl)
        · refine sk_pop ?_
          refine sk_setL (f := aInt) (cv (lo (fun s17 : Unit => [.im (aScr X.K script), .im (aLst (List.map (fun z : (Int × Int × Int × Int × Bool) => aTup [aInt z.1, aInt z.2.1, aInt z.2.2.1, aInt z.2.2.2.1, aBool z.2.2.2.2]) hours_here1)), .im (eCourse ad course3), .un, .un, .un, .un, .un, .un, .un, .un, .un, .un, .un, .un, .un, .un, .un]) (fun t : Bool => aBool t))) F.b 11 (ee_sub (ee_add (ee_ixT (ee_var F.b 5 rfl) (ee_int) rfl) (ee_mod (ee_div (ee_intI F.b T.b_int (ee_var F.b 3 rfl)) (ee_int) ⟨by decide, by decide⟩) (ee_int) (by decide))) (ee_int)) (fun sea92 h93 => ?_)
          refine sk_setL (f := aInt) (cv (lo (fun s17 : Unit => [.im (aScr X.K script), .im (aLst (List.map (fun z : (Int × Int × Int × Int × Bool) => aTup [aInt z.1, aInt z.2.1, aInt z.2.2.1, aInt z.2.2.2.1, aBool z.2.2.2.2]) hours_here1)), .im (eCourse ad course3), .un, .un, .un, .un, .un, .un, .un, .un, .un, .un, .un, .un, .un, .un, .un]) (fun t : Bool => aBool t))) F.b 12 (ee_sub (ee_add (ee_ixT (ee_var F.b 5 rfl) (ee_int) rfl) (ee_mod (ee_div (ee_intI F.b T.b_int (ee_var F.b 3 rfl)) (ee_int) ⟨by decide, by decide⟩) (ee_int) (by decide))) (ee_int)) (fun river94 h95 => ?_)
          refine sk_setR F.b 10 (ee_meth F h_Course_has (ee_var F.b 2 rfl) (ea_cons (ee_var F.b 4 rfl) (ea_cons (ee_var F.b 11 rfl) (ea_cons (ee_var F.b 12 rfl) (ea_nil)))) ⟨course3, number19, sea92, river94, rfl, rfl⟩ (by rfl)) (fun told96 h97 => ?_)
          refine sk_ifC (cv (lo (fun s17 : Unit => [.im (aScr X.K script), .im (aLst (List.map (fun z : (Int × Int × Int × Int × Bool) => aTup [aInt z.1, aInt z.2.1, aInt z.2.2.1, aInt z.2.2.2.1, aBool z.2.2.2.2]) hours_here1)), .im (eCourse ad course3), .un, .un, .un, .un, .un, .un, .un, .un, .un, .un, .un, .un, .un, .un, .un]) (fun t : Bool => aBool t))) (td_w (tdw_orP (td_w (tdw_andP (td_isNotB (ee_var F.b 10 rfl) (ee_bl)) (fun h98 => tdw_and1 (td_isNotB (ee_var F.b 10 rfl) (ee_bl))))) (fun h99 => tdw_or1 (td_neB (ee_var F.b 10 rfl) (ee_andP (ee_chain (g := fun i j => decide (i ≤ j)) (g' := fun i j => decide (i ≤ j)) op_le op_le (ee_ixT (ee_var F.b 5 rfl) (ee_int) rfl) (ee_var F.b 11 rfl) (ee_ixT (ee_var F.b 5 rfl) (ee_int) rfl)) (fun _ => ee_one (ee_chain (g := fun i j => decide (i ≤ j)) (g' := fun i j => decide (i ≤ j)) op_le op_le (ee_ixT (ee_var F.b 5 rfl) (ee_int) rfl) (ee_var F.b 12 rfl) (ee_ixT (ee_var F.b 5 rfl) (ee_int) rfl)))))))) (fun h100 => ?_) (fun h100 => ?_)
          · exact sk_ret (ee_bl)
          · refine sk_pop ?_
            exact sk_end (Le.same (Le.same (Le.same (Le.un (Le.un (Le.un (Le.un (Le.un (Le.un (Le.un (Le.un (Le.un (Le.un (Le.un (Le.un (Le.un (Le.un (Le.un (Le.nil)))))))))))))))))))
    · refine sk_need (fun v107 h108 => ?_)
      refine sk_setL (f := aInt) (cv (fun t : Bool => Out.rt (aBool t))) F.b 13 (ee_mod (ee_at (f := aInt) (ee_call F h_L_cell (ea_cons (ee_var F.b 0 rfl) (ea_cons (ee_int) (ea_nil))) ⟨script, (9 : Int), rfl, rfl⟩) h108) (ee_int) (by decide)) (fun surge105 h106 => ?_)
      refine sk_need (fun v111 h112 => ?_)
      refine sk_setL (f := (fun z : (List (Int × Int × Int × Int × Bool)) => aLst (List.map (fun z : (Int × Int × Int × Int × Bool) => aTup [aInt z.1, aInt z.2.1, aInt z.2.2.1, aInt z.2.2.2.1, aBool z.2.2.2.2]) z))) (cv (fun t : Bool => Out.rt (aBool t))) F.b 14 (ee_fld (ee_at (f := (eCourse ad)) (ee_meth F h_Course_raised (ee_var F.b 2 rfl) (ea_cons (ee_var F.b 13 rfl) (ea_nil)) ⟨course3, surge105, rfl, rfl⟩ (by rfl)) h112) T.c_Course T.a_Course_hours (by rfl)) (fun raised109 h110 => ?_)
      refine sk_ifC (cv (fun t : Bool => Out.rt (aBool t))) (td_neD (f := (fun z : (List (Int × Int × Int × Int × Bool)) => aLst (List.map (fun z : (Int × Int × Int × Int × Bool) => aTup [aInt z.1, aInt z.2.1, aInt z.2.2.1, aInt z.2.2.2.1, aBool z.2.2.2.2]) z))) (x := raised109) (y := (List.map (fun x113 : (Int × Int × Int × Int × Bool) => (x113.1, (x113.2.1 + surge105), x113.2.2.1, x113.2.2.2.1, x113.2.2.2.2)) hours_here1)) F (codLst (codTup (codSc codInt (codSc codInt (codSc codInt (codSc codInt (codS1 codBool))))))) (ee_var F.b 14 rfl) (ee_lcMm F hsc (emb := (fun z : (Int × Int × Int × Int × Bool) => aTup [aInt z.1, aInt z.2.1, aInt z.2.2.1, aInt z.2.2.2.1, aBool z.2.2.2.2])) (g := (fun z : (Int × Int × Int × Int × Bool) => aTup [aInt z.1, aInt z.2.1, aInt z.2.2.1, aInt z.2.2.2.1, aBool z.2.2.2.2])) (out := fun x113 : (Int × Int × Int × Int × Bool) => (x113.1, (x113.2.1 + surge105), x113.2.2.1, x113.2.2.2.1, x113.2.2.2.2)) [("_law_row", 17)] (ei_list (ee_var F.b 1 rfl)) (fun s0 H0 C0 c0 fp0 x113 hx => have F114 := Fc.blk F s0 H0 C0 c0 fp0 sc_law_c2; ga_name F114.b 17) (fun s0 H0 C0 c0 fp0 x113 hx => have F114 := Fc.blk F s0 H0 C0 c0 fp0 sc_law_c2; ee_tup (ea_cons (ee_ixT (ee_var F114.b 17 rfl) (ee_int) rfl) (ea_cons (ee_add (ee_ixT (ee_var F114.b 17 rfl) (ee_int) rfl) (ee_var F114.b 13 rfl)) (ea_cons (ee_ixT (ee_var F114.b 17 rfl) (ee_int) rfl) (ea_cons (ee_ixT (ee_var F114.b 17 rfl) (ee_int) rfl) (ea_cons (ee_ixT (ee_var F114.b 17 rfl) (ee_int) rfl) (ea_nil))))))))) (fun h132 => ?_) (fun h132 => ?_)
      · exact sk_ret (ee_bl)
      · refine sk_pop ?_
        refine sk_need (fun v119 h120 => ?_)
        refine sk_setL (f := aInt) (cv (fun t : Bool => Out.rt (aBool t))) F.b 15 (ee_sub (ee_int) (ee_maxL F T.b_max (ee_lcMm F hsc (emb := (fun z : (Int × Int × Int × Int × Bool) => aTup [aInt z.1, aInt z.2.1, aInt z.2.2.1, aInt z.2.2.2.1, aBool z.2.2.2.2])) (g := aInt) (out := fun x117 : (Int × Int × Int × Int × Bool) => x117.2.1) [("_law_row", 17)] (ei_list (ee_var F.b 1 rfl)) (fun s0 H0 C0 c0 fp0 x117 hx => have F118 := Fc.blk F s0 H0 C0 c0 fp0 sc_law_c3; ga_name F118.b 17) (fun s0 H0 C0 c0 fp0 x117 hx => have F118 := Fc.blk F s0 H0 C0 c0 fp0 sc_law_c3; ee_ixT (ee_var F118.b 17 rfl) (ee_int) rfl)) h120)) (fun highest115 h116 => ?_)
        refine sk_need (fun v121 h122 => ?_)
        refine sk_ifC (cv (fun t : Bool => Out.rt (aBool t))) (td_neD (f := (fun z : (List (Int × Int × Int × Int × Bool)) => aLst (List.map (fun z : (Int × Int × Int × Int × Bool) => aTup [aInt z.1, aInt z.2.1, aInt z.2.2.1, aInt z.2.2.2.1, aBool z.2.2.2.2]) z))) (x := v121.hours) (y := (List.map (fun x123 : (Int × Int × Int × Int × Bool) => (x123.1, (x123.2.1 + highest115), x123.2.2.1, x123.2.2.2.1, x123.2.2.2.2)) hours_here1)) F (codLst (codTup (codSc codInt (codSc codInt (codSc codInt (codSc codInt (codS1 codBool))))))) (ee_fld (ee_at (f := (eCourse ad)) (ee_meth F h_Course_raised (ee_var F.b 2 rfl) (ea_cons (ee_var F.b 15 rfl) (ea_nil)) ⟨course3, highest115, rfl, rfl⟩ (by rfl)) h122) T.c_Course T.a_Course_hours (by rfl)) (ee_lcMm F hsc (emb := (fun z : (Int × Int × Int × Int × Bool) => aTup [aInt z.1, aInt z.2.1, aInt z.2.2.1, aInt z.2.2.2.1, aBool z.2.2.2.2])) (g := (fun z : (Int × Int × Int × Int × Bool) => aTup [aInt z.1, aInt z.2.1, aInt z.2.2.1, aInt z.2.2.2.1, aBool z.2.2.2.2])) (out := fun x123 : (Int × Int × Int × Int × Bool) => (x123.1, (x123.2.1 + highest115), x123.2.2.1, x123.2.2.2.1, x123.2.2.2.2)) [("_law_row", 17)] (ei_list (ee_var F.b 1 rfl)) (fun s0 H0 C0 c0 fp0 x123 hx => have F124 := Fc.blk F s0 H0 C0 c0 fp0 sc_law_c4; ga_name F124.b 17) (fun s0 H0 C0 c0 fp0 x123 hx => have F124 := Fc.blk F s0 H0 C0 c0 fp0 sc_law_c4; ee_tup (ea_cons (ee_ixT (ee_var F124.b 17 rfl) (ee_int) rfl) (ea_cons (ee_add (ee_ixT (ee_var F124.b 17 rfl) (ee_int) rfl) (ee_var F124.b 15 rfl)) (ea_cons (ee_ixT (ee_var F124.b 17 rfl) (ee_int) rfl) (ea_cons (ee_ixT (ee_var F124.b 17 rfl) (ee_int) rfl) (ea_cons (ee_ixT (ee_var F124.b 17 rfl) (ee_int) rfl) (ea_nil))))))))) (fun h131 => ?_) (fun h131 => ?_)
        · exact sk_ret (ee_bl)
        · refine sk_pop ?_
          refine sk_need (fun v129 h130 => ?_)
          exact sk_ret (ee_at (f := aBool) (ee_andR (ee_eqD (f := (fun z : (List (Int × Int × Int × Int × Bool)) => aLst (List.map (fun z : (Int × Int × Int × Int × Bool) => aTup [aInt z.1, aInt z.2.1, aInt z.2.2.1, aInt z.2.2.2.1, aBool z.2.2.2.2]) z))) (x := course3.hours) (y := hours_here1) F (codLst (codTup (codSc codInt (codSc codInt (codSc codInt (codSc codInt (codS1 codBool))))))) (ee_fld (ee_var F.b 2 rfl) T.c_Course T.a_Course_hours (by rfl)) (ee_var F.b 1 rfl)) (fun _ => ee_needM (f := aBool) (fun v125 h126 => ee_andR (ee_at (f := aBool) (ee_call F h_L_too_high (ea_cons (ee_var F.b 2 rfl) (ea_cons (ee_add (ee_var F.b 15 rfl) (ee_int)) (ea_nil))) ⟨course3, (highest115 + (1 : Int)), rfl, rfl⟩) h126) (fun _ => ee_one (ee_needM (f := aBool) (fun v127 h128 => ee_at (f := aBool) (ee_call F h_L_too_high (ea_cons (ee_var F.b 2 rfl) (ea_cons (ee_add (ee_add (ee_var F.b 15 rfl) (ee_int)) (ee_var F.b 13 rfl)) (ea_nil))) ⟨course3, ((highest115 + (1 : Int)) + surge105), rfl, rfl⟩) h128)))))) h130)
theorem ok_law {P : Program} {w : World} {K : PySem.W.Frag} {mg : Str → Option Value} {base : Heap} {ad : Ads} {cl : Er → Addr} {f : Addr} {fd : FuncData} (T : Txt K mg ad cl) (F : Fun K "law" "law" s_law f fd) (h_L_hours : Fn P w K mg base "_law_hours" 2 ["_law_script", "_law_most"] (spOf cl 2 (I_L_hours K ad))) (h_Course___init__ : Ma P w K mg base "Course" ad.Course 3 ["self", "hours"] (spIni cl 1 ad.Course (I_Course___init__ K ad))) (h_Course_count : Me P w K mg base ad.Course "count" 1 ["self"] (spOf cl 1 (I_Course_count K ad))) (h_Course_hour : Me P w K mg base ad.Course "hour" 2 ["self", "number"] (spOf cl 2 (I_Course_hour K ad))) (h_L_narrowed : Fn P w K mg base "_law_narrowed" 6 ["_law_course", "_law_number", "_law_hour"] (spOf cl 3 (I_L_narrowed K ad))) (h_Course_has : Me P w K mg base ad.Course "has" 3 ["self", "number", "sea", "river"] (spOf cl 4 (I_Course_has K ad))) (h_L_cell : Fn P w K mg base "_law_cell" 1 ["_law_script", "_law_k"] (spOf cl 2 (I_L_cell K ad))) (h_Course_raised : Me P w K mg base ad.Course "raised" 5 ["self", "surge"] (spOf cl 2 (I_Course_raised K ad))) (h_L_too_high : Fn P w K mg base "_law_too_high" 6 ["_law_course", "_law_surge"] (spOf cl 2 (I_L_too_high K ad))) :
    FnOk P w K mg base (L2.CX P w) 7 f fd ["_law_script"] (spOf cl 1 (I_law K ad)) := by
  refine fn_body (cl := cl) (I := I_law K ad) F fs_law rfl se_law ?_
  rintro cdv A1 outer s H E Fc as r ⟨script, rfl, rfl⟩ _
  exact ⟨_, finO_cv (f := aBool) _, sd_law (X := cxOf (L2.CX P w) P w K mg base N_law "law" (defScope s_law) f cdv A1 outer s H E) T Fc rfl h_L_hours h_Course___init__ h_Course_count h_Course_hour h_L_narrowed h_Course_has h_L_cell h_Course_raised h_L_too_high script⟩
end M_k22

set_option Elab.async false
set_option linter.all false
set_option maxRecDepth 100000
set_option maxHeartbeats 4000000
namespace M_k22
open PySem L2 SK
def spLaw (K : PySem.W.Frag) : Sp := fun vs H Q _ => ∃ (a : Addr) (ns : List Int), vs = [.ref a] ∧ SqL K H a (ns.map V.int) ∧ ns.length ≤ 63 ∧ ∀ H', Q (.bl true) H'
theorem all_mk {l : PySem.W.OpenLaw} {w : World} {K : PySem.W.Frag} {h : Heap} {mg : Str → Option Value} {fa : Addr} (law_true : ∀ ns : List Int, ns.length ≤ 63 → law ns = .ok true) (X : K.In h) (G : h.Ns mainGlobals mg) (hfa : mg "law" = some (.ref fa))
    {tk_MOST_HOURS : Tok}
    {tk_MOST_WATER : Tok}
    {C_InvalidCourse : Addr}
    {C_InvalidState : Addr}
    {C_Course : Addr}
    {f_L_cell : Addr}
    {od_L_cell an_L_cell : Option Addr} {sl_L_cell : Array (Option Value)} {oc_L_cell kV_L_cell dc_L_cell pm_L_cell cd_L_cell ct_L_cell : Value}
    {f_L_hours : Addr}
    {od_L_hours an_L_hours : Option Addr} {sl_L_hours : Array (Option Value)} {oc_L_hours kV_L_hours dc_L_hours pm_L_hours cd_L_hours ct_L_hours : Value}
    {f_is_whole : Addr}
    {od_is_whole an_is_whole : Option Addr} {sl_is_whole : Array (Option Value)} {oc_is_whole kV_is_whole dc_is_whole pm_is_whole cd_is_whole ct_is_whole : Value}
    {f_check_hour : Addr}
    {od_check_hour an_check_hour : Option Addr} {sl_check_hour : Array (Option Value)} {oc_check_hour kV_check_hour dc_check_hour pm_check_hour cd_check_hour ct_check_hour : Value}
    {f_Course___init__ : Addr}
    {od_Course___init__ an_Course___init__ : Option Addr} {sl_Course___init__ : Array (Option Value)} {oc_Course___init__ kV_Course___init__ dc_Course___init__ pm_Course___init__ cd_Course___init__ ct_Course___init__ : Value}
    {f_Course_count : Addr}
    {od_Course_count an_Course_count : Option Addr} {sl_Course_count : Array (Option Value)} {oc_Course_count kV_Course_count dc_Course_count pm_Course_count cd_Course_count ct_Course_count : Value}
    {f_Course_hour : Addr}
    {od_Course_hour an_Course_hour : Option Addr} {sl_Course_hour : Array (Option Value)} {oc_Course_hour kV_Course_hour dc_Course_hour pm_Course_hour cd_Course_hour ct_Course_hour : Value}
    {f_Course_narrowed : Addr}
    {od_Course_narrowed an_Course_narrowed : Option Addr} {sl_Course_narrowed : Array (Option Value)} {oc_Course_narrowed kV_Course_narrowed dc_Course_narrowed pm_Course_narrowed cd_Course_narrowed ct_Course_narrowed : Value}
    {f_L_narrowed : Addr}
    {od_L_narrowed an_L_narrowed : Option Addr} {sl_L_narrowed : Array (Option Value)} {oc_L_narrowed kV_L_narrowed dc_L_narrowed pm_L_narrowed cd_L_narrowed ct_L_narrowed : Value}
    {f_Course_has : Addr}
    {od_Course_has an_Course_has : Option Addr} {sl_Course_has : Array (Option Value)} {oc_Course_has kV_Course_has dc_Course_has pm_Course_has cd_Course_has ct_Course_has : Value}
    {f_Course_raised : Addr}
    {od_Course_raised an_Course_raised : Option Addr} {sl_Course_raised : Array (Option Value)} {oc_Course_raised kV_Course_raised dc_Course_raised pm_Course_raised cd_Course_raised ct_Course_raised : Value}
    {f_L_too_high : Addr}
    {od_L_too_high an_L_too_high : Option Addr} {sl_L_too_high : Array (Option Value)} {oc_L_too_high kV_L_too_high dc_L_too_high pm_L_too_high cd_L_too_high ct_L_too_high : Value}
    {f_law : Addr}
    {od_law an_law : Option Addr} {sl_law : Array (Option Value)} {oc_law kV_law dc_law pm_law cd_law ct_law : Value}
    (z_bool : PySem.W.nsIn K mainGlobals "bool" = some none)
    (z_int : PySem.W.nsIn K mainGlobals "int" = some none)
    (z_isinstance : PySem.W.nsIn K mainGlobals "isinstance" = some none)
    (z_len : PySem.W.nsIn K mainGlobals "len" = some none)
    (z_max : PySem.W.nsIn K mainGlobals "max" = some none)
    (z_range : PySem.W.nsIn K mainGlobals "range" = some none)
    (z_tuple : PySem.W.nsIn K mainGlobals "tuple" = some none)
    (z_MOST_HOURS : PySem.W.nsIn K mainGlobals "MOST_HOURS" = some (some (.int 72 tk_MOST_HOURS)))
    (z_MOST_WATER : PySem.W.nsIn K mainGlobals "MOST_WATER" = some (some (.int 400 tk_MOST_WATER)))
    (g_InvalidCourse : PySem.W.nsIn K mainGlobals "InvalidCourse" = some (some (.ref C_InvalidCourse)))
    (s_InvalidCourse : PySem.W.subIn K (.ref C_InvalidCourse) (.type "BaseException") = some true)
    (t_InvalidCourse : PySem.W.typeIn K (.ref C_InvalidCourse) = some (.type "type"))
    (g_InvalidState : PySem.W.nsIn K mainGlobals "InvalidState" = some (some (.ref C_InvalidState)))
    (s_InvalidState : PySem.W.subIn K (.ref C_InvalidState) (.type "BaseException") = some true)
    (t_InvalidState : PySem.W.typeIn K (.ref C_InvalidState) = some (.type "type"))
    (q_InvalidCourse : PySem.W.excIn K C_InvalidCourse [.type "ValueError", .type "Exception", .type "BaseException", .type "object"] "ValueError.__new__" = true)
    (kp_InvalidCourse : PySem.W.keepIn K (.ref C_InvalidCourse) = true)
    (q_InvalidState : PySem.W.excIn K C_InvalidState [.type "ValueError", .type "Exception", .type "BaseException", .type "object"] "ValueError.__new__" = true)
    (kp_InvalidState : PySem.W.keepIn K (.ref C_InvalidState) = true)
    (i_InvalidCourse : PySem.W.isClsIn K C_InvalidCourse = true)
    (u_InvalidCourse_InvalidCourse : PySem.W.subIn K (.ref C_InvalidCourse) (.ref C_InvalidCourse) = some true)
    (u_InvalidState_InvalidCourse : PySem.W.subIn K (.ref C_InvalidState) (.ref C_InvalidCourse) = some false)
    (g_Course : PySem.W.nsIn K mainGlobals "Course" = some (some (.ref C_Course)))
    (pg_Course : PySem.W.plainGet K C_Course Str.empty = true)
    (hd_Course : PySem.W.hasDictIn K C_Course = true)
    (po_Course : PySem.W.plainOver K C_Course = true)
    (sa_Course : PySem.W.findIn K (.ref C_Course) "__setattr__" = some (some (.builtin "object.__setattr__")))
    (mk_Course : PySem.W.makesIn K C_Course = true)
    (kc_Course : PySem.W.keepIn K (.ref C_Course) = true)
    (n_Course_hours : PySem.W.findIn K (.ref C_Course) "hours" = some none)
    (a_L_cell : PySem.W.nsIn K mainGlobals "_law_cell" = some (some (.ref f_L_cell)))
    (l_L_cell : K.lookup f_L_cell = some ⟨oc_L_cell, od_L_cell, .func (PySem.W.fnOf "_law_cell" "_law_cell" (defArgs s_L_cell) (defBody s_L_cell) (defScope s_L_cell) .none kV_L_cell dc_L_cell pm_L_cell an_L_cell cd_L_cell ct_L_cell), sl_L_cell⟩)
    (c_L_cell : PySem.W.codeIn K cd_L_cell "_law_cell" = true)
    (k_L_cell : PySem.W.keepIn K (.ref f_L_cell) = true)
    (a_L_hours : PySem.W.nsIn K mainGlobals "_law_hours" = some (some (.ref f_L_hours)))
    (l_L_hours : K.lookup f_L_hours = some ⟨oc_L_hours, od_L_hours, .func (PySem.W.fnOf "_law_hours" "_law_hours" (defArgs s_L_hours) (defBody s_L_hours) (defScope s_L_hours) .none kV_L_hours dc_L_hours pm_L_hours an_L_hours cd_L_hours ct_L_hours), sl_L_hours⟩)
    (c_L_hours : PySem.W.codeIn K cd_L_hours "_law_hours" = true)
    (k_L_hours : PySem.W.keepIn K (.ref f_L_hours) = true)
    (a_is_whole : PySem.W.nsIn K mainGlobals "is_whole" = some (some (.ref f_is_whole)))
    (l_is_whole : K.lookup f_is_whole = some ⟨oc_is_whole, od_is_whole, .func (PySem.W.fnOf "is_whole" "is_whole" (defArgs s_is_whole) (defBody s_is_whole) (defScope s_is_whole) .none kV_is_whole dc_is_whole pm_is_whole an_is_whole cd_is_whole ct_is_whole), sl_is_whole⟩)
    (c_is_whole : PySem.W.codeIn K cd_is_whole "is_whole" = true)
    (k_is_whole : PySem.W.keepIn K (.ref f_is_whole) = true)
    (a_check_hour : PySem.W.nsIn K mainGlobals "check_hour" = some (some (.ref f_check_hour)))
    (l_check_hour : K.lookup f_check_hour = some ⟨oc_check_hour, od_check_hour, .func (PySem.W.fnOf "check_hour" "check_hour" (defArgs s_check_hour) (defBody s_check_hour) (defScope s_check_hour) .none kV_check_hour dc_check_hour pm_check_hour an_check_hour cd_check_hour ct_check_hour), sl_check_hour⟩)
    (c_check_hour : PySem.W.codeIn K cd_check_hour "check_hour" = true)
    (k_check_hour : PySem.W.keepIn K (.ref f_check_hour) = true)
    (a_Course___init__ : PySem.W.findIn K (.ref C_Course) "__init__" = some (some (.ref f_Course___init__)))
    (if_Course___init__ : PySem.W.isFn K (.ref f_Course___init__) = true)
    (l_Course___init__ : K.lookup f_Course___init__ = some ⟨oc_Course___init__, od_Course___init__, .func (PySem.W.fnOf "__init__" "Course.__init__" (defArgs s_Course___init__) (defBody s_Course___init__) (defScope s_Course___init__) .none kV_Course___init__ dc_Course___init__ pm_Course___init__ an_Course___init__ cd_Course___init__ ct_Course___init__), sl_Course___init__⟩)
    (c_Course___init__ : PySem.W.codeIn K cd_Course___init__ "Course.__init__" = true)
    (k_Course___init__ : PySem.W.keepIn K (.ref f_Course___init__) = true)
    (a_Course_count : PySem.W.findIn K (.ref C_Course) "count" = some (some (.ref f_Course_count)))
    (if_Course_count : PySem.W.isFn K (.ref f_Course_count) = true)
    (l_Course_count : K.lookup f_Course_count = some ⟨oc_Course_count, od_Course_count, .func (PySem.W.fnOf "count" "Course.count" (defArgs s_Course_count) (defBody s_Course_count) (defScope s_Course_count) .none kV_Course_count dc_Course_count pm_Course_count an_Course_count cd_Course_count ct_Course_count), sl_Course_count⟩)
    (c_Course_count : PySem.W.codeIn K cd_Course_count "Course.count" = true)
    (k_Course_count : PySem.W.keepIn K (.ref f_Course_count) = true)
    (a_Course_hour : PySem.W.findIn K (.ref C_Course) "hour" = some (some (.ref f_Course_hour)))
    (if_Course_hour : PySem.W.isFn K (.ref f_Course_hour) = true)
    (l_Course_hour : K.lookup f_Course_hour = some ⟨oc_Course_hour, od_Course_hour, .func (PySem.W.fnOf "hour" "Course.hour" (defArgs s_Course_hour) (defBody s_Course_hour) (defScope s_Course_hour) .none kV_Course_hour dc_Course_hour pm_Course_hour an_Course_hour cd_Course_hour ct_Course_hour), sl_Course_hour⟩)
    (c_Course_hour : PySem.W.codeIn K cd_Course_hour "Course.hour" = true)
    (k_Course_hour : PySem.W.keepIn K (.ref f_Course_hour) = true)
    (a_Course_narrowed : PySem.W.findIn K (.ref C_Course) "narrowed" = some (some (.ref f_Course_narrowed)))
    (if_Course_narrowed : PySem.W.isFn K (.ref f_Course_narrowed) = true)
    (l_Course_narrowed : K.lookup f_Course_narrowed = some ⟨oc_Course_narrowed, od_Course_narrowed, .func (PySem.W.fnOf "narrowed" "Course.narrowed" (defArgs s_Course_narrowed) (defBody s_Course_narrowed) (defScope s_Course_narrowed) .none kV_Course_narrowed dc_Course_narrowed pm_Course_narrowed an_Course_narrowed cd_Course_narrowed ct_Course_narrowed), sl_Course_narrowed⟩)
    (c_Course_narrowed : PySem.W.codeIn K cd_Course_narrowed "Course.narrowed" = true)
    (k_Course_narrowed : PySem.W.keepIn K (.ref f_Course_narrowed) = true)
    (a_L_narrowed : PySem.W.nsIn K mainGlobals "_law_narrowed" = some (some (.ref f_L_narrowed)))
    (l_L_narrowed : K.lookup f_L_narrowed = some ⟨oc_L_narrowed, od_L_narrowed, .func (PySem.W.fnOf "_law_narrowed" "_law_narrowed" (defArgs s_L_narrowed) (defBody s_L_narrowed) (defScope s_L_narrowed) .none kV_L_narrowed dc_L_narrowed pm_L_narrowed an_L_narrowed cd_L_narrowed ct_L_narrowed), sl_L_narrowed⟩)
    (c_L_narrowed : PySem.W.codeIn K cd_L_narrowed "_law_narrowed" = true)
    (k_L_narrowed : PySem.W.keepIn K (.ref f_L_narrowed) = true)
    (a_Course_has : PySem.W.findIn K (.ref C_Course) "has" = some (some (.ref f_Course_has)))
    (if_Course_has : PySem.W.isFn K (.ref f_Course_has) = true)
    (l_Course_has : K.lookup f_Course_has = some ⟨oc_Course_has, od_Course_has, .func (PySem.W.fnOf "has" "Course.has" (defArgs s_Course_has) (defBody s_Course_has) (defScope s_Course_has) .none kV_Course_has dc_Course_has pm_Course_has an_Course_has cd_Course_has ct_Course_has), sl_Course_has⟩)
    (c_Course_has : PySem.W.codeIn K cd_Course_has "Course.has" = true)
    (k_Course_has : PySem.W.keepIn K (.ref f_Course_has) = true)
    (a_Course_raised : PySem.W.findIn K (.ref C_Course) "raised" = some (some (.ref f_Course_raised)))
    (if_Course_raised : PySem.W.isFn K (.ref f_Course_raised) = true)
    (l_Course_raised : K.lookup f_Course_raised = some ⟨oc_Course_raised, od_Course_raised, .func (PySem.W.fnOf "raised" "Course.raised" (defArgs s_Course_raised) (defBody s_Course_raised) (defScope s_Course_raised) .none kV_Course_raised dc_Course_raised pm_Course_raised an_Course_raised cd_Course_raised ct_Course_raised), sl_Course_raised⟩)
    (c_Course_raised : PySem.W.codeIn K cd_Course_raised "Course.raised" = true)
    (k_Course_raised : PySem.W.keepIn K (.ref f_Course_raised) = true)
    (a_L_too_high : PySem.W.nsIn K mainGlobals "_law_too_high" = some (some (.ref f_L_too_high)))
    (l_L_too_high : K.lookup f_L_too_high = some ⟨oc_L_too_high, od_L_too_high, .func (PySem.W.fnOf "_law_too_high" "_law_too_high" (defArgs s_L_too_high) (defBody s_L_too_high) (defScope s_L_too_high) .none kV_L_too_high dc_L_too_high pm_L_too_high an_L_too_high cd_L_too_high ct_L_too_high), sl_L_too_high⟩)
    (c_L_too_high : PySem.W.codeIn K cd_L_too_high "_law_too_high" = true)
    (k_L_too_high : PySem.W.keepIn K (.ref f_L_too_high) = true)
    (a_law : PySem.W.nsIn K mainGlobals "law" = some (some (.ref f_law)))
    (l_law : K.lookup f_law = some ⟨oc_law, od_law, .func (PySem.W.fnOf "law" "law" (defArgs s_law) (defBody s_law) (defScope s_law) .none kV_law dc_law pm_law an_law cd_law ct_law), sl_law⟩)
    (c_law : PySem.W.codeIn K cd_law "law" = true)
    (k_law : PySem.W.keepIn K (.ref f_law) = true)
    : ∃ fd : FuncData, (∀ (s : Shared) (v : Value), BindsTo s fd ⟨[v], []⟩ [("_law_script", v)]) ∧ ∀ base : Heap, K.In base → base.Ns mainGlobals mg → FnOk l.prog w K mg base (L2.CX l.prog w) 7 fa fd ["_law_script"] (spLaw K) := by
  have e := hfa.symm.trans (PySem.W.mg_of X G a_law)
  cases e
  let ad : Ads := { dummy := 0, Course := C_Course, xInvalidCourse := C_InvalidCourse }
  let cl : Er → Addr := fun e => match e with | .works => C_InvalidCourse | .course => C_InvalidCourse | .state => C_InvalidState | .move => C_InvalidCourse | .command => C_InvalidCourse | .line _ => C_InvalidCourse
  have T : Txt K mg ad cl := ⟨trivial,
    PySem.W.mg_none_of X G z_bool,
    PySem.W.mg_none_of X G z_int,
    PySem.W.mg_none_of X G z_isinstance,
    PySem.W.mg_none_of X G z_len,
    PySem.W.mg_none_of X G z_max,
    PySem.W.mg_none_of X G z_range,
    PySem.W.mg_none_of X G z_tuple,
    ⟨_, PySem.W.mg_of X G z_MOST_HOURS, ⟨_, rfl⟩⟩,
    ⟨_, PySem.W.mg_of X G z_MOST_WATER, ⟨_, rfl⟩⟩,
    ⟨PySem.W.mg_of X G g_InvalidCourse, q_InvalidCourse, kp_InvalidCourse, s_InvalidCourse, t_InvalidCourse⟩,
    ⟨PySem.W.mg_of X G g_InvalidState, q_InvalidState, kp_InvalidState, s_InvalidState, t_InvalidState⟩,
    ⟨pg_Course, hd_Course, po_Course, sa_Course⟩,
    n_Course_hours,
    PySem.W.mg_of X G g_InvalidCourse,
    fun e => match e with | .works => exm_of s_InvalidCourse i_InvalidCourse t_InvalidCourse s_InvalidCourse u_InvalidCourse_InvalidCourse | .course => exm_of s_InvalidCourse i_InvalidCourse t_InvalidCourse s_InvalidCourse u_InvalidCourse_InvalidCourse | .state => exm_of s_InvalidState i_InvalidCourse t_InvalidCourse s_InvalidCourse u_InvalidState_InvalidCourse | .move => exm_of s_InvalidCourse i_InvalidCourse t_InvalidCourse s_InvalidCourse u_InvalidCourse_InvalidCourse | .command => exm_of s_InvalidCourse i_InvalidCourse t_InvalidCourse s_InvalidCourse u_InvalidCourse_InvalidCourse | .line _ => exm_of s_InvalidCourse i_InvalidCourse t_InvalidCourse s_InvalidCourse u_InvalidCourse_InvalidCourse⟩
  have F_L_cell := fun_mk (st := s_L_cell) l_L_cell c_L_cell k_L_cell
  have b_L_cell := F_L_cell.binds (ps := ["_law_script", "_law_k"]) fun _ _ _ _ _ _ us hl => match us, hl with | [_, _], _ => rfl
  have F_L_hours := fun_mk (st := s_L_hours) l_L_hours c_L_hours k_L_hours
  have b_L_hours := F_L_hours.binds (ps := ["_law_script", "_law_most"]) fun _ _ _ _ _ _ us hl => match us, hl with | [_, _], _ => rfl
  have F_is_whole := fun_mk (st := s_is_whole) l_is_whole c_is_whole k_is_whole
  have b_is_whole := F_is_whole.binds (ps := ["value", "low", "high"]) fun _ _ _ _ _ _ us hl => match us, hl with | [_, _, _], _ => rfl
  have F_check_hour := fun_mk (st := s_check_hour) l_check_hour c_check_hour k_check_hour
  have b_check_hour := F_check_hour.binds (ps := ["hour"]) fun _ _ _ _ _ _ us hl => match us, hl with | [_], _ => rfl
  have F_Course___init__ := fun_mk (st := s_Course___init__) l_Course___init__ c_Course___init__ k_Course___init__
  have b_Course___init__ := F_Course___init__.binds (ps := ["self", "hours"]) fun _ _ _ _ _ _ us hl => match us, hl with | [_, _], _ => rfl
  have F_Course_count := fun_mk (st := s_Course_count) l_Course_count c_Course_count k_Course_count
  have b_Course_count := F_Course_count.binds (ps := ["self"]) fun _ _ _ _ _ _ us hl => match us, hl with | [_], _ => rfl
  have F_Course_hour := fun_mk (st := s_Course_hour) l_Course_hour c_Course_hour k_Course_hour
  have b_Course_hour := F_Course_hour.binds (ps := ["self", "number"]) fun _ _ _ _ _ _ us hl => match us, hl with | [_, _], _ => rfl
  have F_Course_narrowed := fun_mk (st := s_Course_narrowed) l_Course_narrowed c_Course_narrowed k_Course_narrowed
  have b_Course_narrowed := F_Course_narrowed.binds (ps := ["self", "number", "hour"]) fun _ _ _ _ _ _ us hl => match us, hl with | [_, _, _], _ => rfl
  have F_L_narrowed := fun_mk (st := s_L_narrowed) l_L_narrowed c_L_narrowed k_L_narrowed
  have b_L_narrowed := F_L_narrowed.binds (ps := ["_law_course", "_law_number", "_law_hour"]) fun _ _ _ _ _ _ us hl => match us, hl with | [_, _, _], _ => rfl
  have F_Course_has := fun_mk (st := s_Course_has) l_Course_has c_Course_has k_Course_has
  have b_Course_has := F_Course_has.binds (ps := ["self", "number", "sea", "river"]) fun _ _ _ _ _ _ us hl => match us, hl with | [_, _, _, _], _ => rfl
  have F_Course_raised := fun_mk (st := s_Course_raised) l_Course_raised c_Course_raised k_Course_raised
  have b_Course_raised := F_Course_raised.binds (ps := ["self", "surge"]) fun _ _ _ _ _ _ us hl => match us, hl with | [_, _], _ => rfl
  have F_L_too_high := fun_mk (st := s_L_too_high) l_L_too_high c_L_too_high k_L_too_high
  have b_L_too_high := F_L_too_high.binds (ps := ["_law_course", "_law_surge"]) fun _ _ _ _ _ _ us hl => match us, hl with | [_, _], _ => rfl
  have F_law := fun_mk (st := s_law) l_law c_law k_law
  have b_law := F_law.binds (ps := ["_law_script"]) fun _ _ _ _ _ _ us hl => match us, hl with | [_], _ => rfl
  refine ⟨PySem.W.fnOf "law" "law" (defArgs s_law) (defBody s_law) (defScope s_law) .none kV_law dc_law pm_law an_law cd_law ct_law, fun s v => .of_eq rfl, fun base _ _ => ?_⟩
  have h_L_cell : Fn l.prog w K mg base "_law_cell" 1 ["_law_script", "_law_k"] (spOf cl 2 (I_L_cell K ad)) := ⟨f_L_cell, _, PySem.W.mg_of X G a_L_cell, k_L_cell, b_L_cell, ok_L_cell (P := l.prog) (w := w) (base := base) T F_L_cell ⟩
  have h_L_hours : Fn l.prog w K mg base "_law_hours" 2 ["_law_script", "_law_most"] (spOf cl 2 (I_L_hours K ad)) := ⟨f_L_hours, _, PySem.W.mg_of X G a_L_hours, k_L_hours, b_L_hours, ok_L_hours (P := l.prog) (w := w) (base := base) T F_L_hours h_L_cell⟩
  have h_is_whole : Fn l.prog w K mg base "is_whole" 1 ["value", "low", "high"] (spOf cl 3 (I_is_whole K ad)) := ⟨f_is_whole, _, PySem.W.mg_of X G a_is_whole, k_is_whole, b_is_whole, ok_is_whole (P := l.prog) (w := w) (base := base) T F_is_whole ⟩
  have h_check_hour : Fn l.prog w K mg base "check_hour" 2 ["hour"] (spOf cl 1 (I_check_hour K ad)) := ⟨f_check_hour, _, PySem.W.mg_of X G a_check_hour, k_check_hour, b_check_hour, ok_check_hour (P := l.prog) (w := w) (base := base) T F_check_hour h_is_whole⟩
  have h_Course___init__ : Ma l.prog w K mg base "Course" ad.Course 3 ["self", "hours"] (spIni cl 1 ad.Course (I_Course___init__ K ad)) := ⟨PySem.W.mg_of X G g_Course, f_Course___init__, _, ⟨mk_Course, a_Course___init__, if_Course___init__, kc_Course⟩, b_Course___init__, ok_Course___init__ (P := l.prog) (w := w) (base := base) T F_Course___init__ h_check_hour⟩
  have h_Course_count : Me l.prog w K mg base ad.Course "count" 1 ["self"] (spOf cl 1 (I_Course_count K ad)) := ⟨T.c_Course, f_Course_count, _, ⟨a_Course_count, if_Course_count, k_Course_count⟩, b_Course_count, ok_Course_count (P := l.prog) (w := w) (base := base) T F_Course_count ⟩
  have h_Course_hour : Me l.prog w K mg base ad.Course "hour" 2 ["self", "number"] (spOf cl 2 (I_Course_hour K ad)) := ⟨T.c_Course, f_Course_hour, _, ⟨a_Course_hour, if_Course_hour, k_Course_hour⟩, b_Course_hour, ok_Course_hour (P := l.prog) (w := w) (base := base) T F_Course_hour h_is_whole h_Course_count⟩
  have h_Course_narrowed : Me l.prog w K mg base ad.Course "narrowed" 5 ["self", "number", "hour"] (spOf cl 3 (I_Course_narrowed K ad)) := ⟨T.c_Course, f_Course_narrowed, _, ⟨a_Course_narrowed, if_Course_narrowed, k_Course_narrowed⟩, b_Course_narrowed, ok_Course_narrowed (P := l.prog) (w := w) (base := base) T F_Course_narrowed h_check_hour h_Course_hour h_Course___init__⟩
  have h_L_narrowed : Fn l.prog w K mg base "_law_narrowed" 6 ["_law_course", "_law_number", "_law_hour"] (spOf cl 3 (I_L_narrowed K ad)) := ⟨f_L_narrowed, _, PySem.W.mg_of X G a_L_narrowed, k_L_narrowed, b_L_narrowed, ok_L_narrowed (P := l.prog) (w := w) (base := base) T F_L_narrowed h_Course_narrowed⟩
  have h_Course_has : Me l.prog w K mg base ad.Course "has" 3 ["self", "number", "sea", "river"] (spOf cl 4 (I_Course_has K ad)) := ⟨T.c_Course, f_Course_has, _, ⟨a_Course_has, if_Course_has, k_Course_has⟩, b_Course_has, ok_Course_has (P := l.prog) (w := w) (base := base) T F_Course_has h_Course_hour⟩
  have h_Course_raised : Me l.prog w K mg base ad.Course "raised" 5 ["self", "surge"] (spOf cl 2 (I_Course_raised K ad)) := ⟨T.c_Course, f_Course_raised, _, ⟨a_Course_raised, if_Course_raised, k_Course_raised⟩, b_Course_raised, ok_Course_raised (P := l.prog) (w := w) (base := base) T F_Course_raised h_Course___init__⟩
  have h_L_too_high : Fn l.prog w K mg base "_law_too_high" 6 ["_law_course", "_law_surge"] (spOf cl 2 (I_L_too_high K ad)) := ⟨f_L_too_high, _, PySem.W.mg_of X G a_L_too_high, k_L_too_high, b_L_too_high, ok_L_too_high (P := l.prog) (w := w) (base := base) T F_L_too_high h_Course_raised⟩
  refine FnOk.imp (ok_law (P := l.prog) (w := w) (base := base) T F_law h_L_hours h_Course___init__ h_Course_count h_Course_hour h_L_narrowed h_Course_has h_L_cell h_Course_raised h_L_too_high) ?_
  rintro vs H Q E ⟨a, ns, rfl, hS, hlen, k⟩
  refine ⟨H, [aScr K ns], _, ⟨ns, rfl, rfl⟩, rfl, Sub.refl H, .cons ⟨a, rfl, hS⟩ .nil, ?_⟩
  rw [law_true ns hlen]
  intro v G2 H2 _ p
  have p2 : v = .bl true := p
  subst p2
  exact k H2
theorem walk {l : PySem.W.OpenLaw} {q : Program} {loose : List Str} {XP : (Str → Option Value) → Heap → Prop} {YP : World → Heap → Prop} {d : DefRec} {K : Params → PySem.W.Frag} (hn : l.most = some 63) (hdf : d.params.defaults = [])
    (hY : ∀ (w : World) (h : Heap), YP w h → (K w.params).In h)
    (F : ∀ (w : World) (mg : Str → Option Value) (fa : Addr) (h : Heap), (K w.params).In h → h.Ns mainGlobals mg → mg d.name = some (.ref fa) →
      ∃ fd : FuncData, (∀ (s : Shared) (u : Value), BindsTo s fd ⟨[u], []⟩ [("_law_script", u)]) ∧ ∀ base : Heap, (K w.params).In base → base.Ns mainGlobals mg → FnOk l.prog w (K w.params) mg base (L2.CX l.prog w) 7 fa fd ["_law_script"] (spLaw (K w.params))) :
    PySem.W.WalkO q loose XP YP l.row.toRowW d [] (fun f vs => PySem.call f vs) :=
  L2.walk_of (n := 63) (k := 7) (x := "_law_script") (CX := fun w => L2.CX l.prog w) (sp := fun w => spLaw (K w.params)) hn (by decide) hdf ⟨rfl, by decide, by decide⟩ hY F (fun _ _ a ns hl _ hS => ⟨a, ns, rfl, hS, hl, fun _ => rfl⟩) fun _ _ _ _ _ z => by
    obtain ⟨_, _, _, _, _, _, _, _, _, _, _, _, z⟩ := z
    exact z.elim
end M_k22

open PySem PySem.W PyProof.Rows
set_option maxRecDepth 100000 in
set_option maxHeartbeats 0 in
theorem PySem.Challenge.cw_surgekept_k22_courses_narrowed_and_raise_holds : PySem.Challenge.rw_surgekept_k22_courses_narrowed_and_raise.Holds := by
  w_on; o_law; k_head; (case hw => w_witness2)
  k_fill
  refine M_k22.walk (l := PySem.Challenge.rw_surgekept_k22_courses_narrowed_and_raise) rfl rfl (fun w h Y => PySem.W.kIn_of Y) ?F
  case F =>
    intro w mg fa h KX G hmg
    refine' M_k22.all_mk (fun ns h => M_k22.law_true ns h) KX G hmg ?z_bool ?z_int ?z_isinstance ?z_len ?z_max ?z_range ?z_tuple ?z_MOST_HOURS ?z_MOST_WATER ?g_InvalidCourse ?s_InvalidCourse ?t_InvalidCourse ?g_InvalidState ?s_InvalidState ?t_InvalidState ?q_InvalidCourse ?kp_InvalidCourse ?q_InvalidState ?kp_InvalidState ?i_InvalidCourse ?u_InvalidCourse_InvalidCourse ?u_InvalidState_InvalidCourse ?g_Course ?pg_Course ?hd_Course ?po_Course ?sa_Course ?mk_Course ?kc_Course ?n_Course_hours ?a_L_cell ?l_L_cell ?c_L_cell ?k_L_cell ?a_L_hours ?l_L_hours ?c_L_hours ?k_L_hours ?a_is_whole ?l_is_whole ?c_is_whole ?k_is_whole ?a_check_hour ?l_check_hour ?c_check_hour ?k_check_hour ?a_Course___init__ ?if_Course___init__ ?l_Course___init__ ?c_Course___init__ ?k_Course___init__ ?a_Course_count ?if_Course_count ?l_Course_count ?c_Course_count ?k_Course_count ?a_Course_hour ?if_Course_hour ?l_Course_hour ?c_Course_hour ?k_Course_hour ?a_Course_narrowed ?if_Course_narrowed ?l_Course_narrowed ?c_Course_narrowed ?k_Course_narrowed ?a_L_narrowed ?l_L_narrowed ?c_L_narrowed ?k_L_narrowed ?a_Course_has ?if_Course_has ?l_Course_has ?c_Course_has ?k_Course_has ?a_Course_raised ?if_Course_raised ?l_Course_raised ?c_Course_raised ?k_Course_raised ?a_L_too_high ?l_L_too_high ?c_L_too_high ?k_L_too_high ?a_law ?l_law ?c_law ?k_law
    (case z_bool => k_is)
    (case z_int => k_is)
    (case z_isinstance => k_is)
    (case z_len => k_is)
    (case z_max => k_is)
    (case z_range => k_is)
    (case z_tuple => k_is)
    (case z_MOST_HOURS => k_is)
    (case z_MOST_WATER => k_is)
    (case g_InvalidCourse => k_is)
    (case s_InvalidCourse => k_is)
    (case t_InvalidCourse => k_is)
    (case g_InvalidState => k_is)
    (case s_InvalidState => k_is)
    (case t_InvalidState => k_is)
    (case q_InvalidCourse => k_exc)
    (case kp_InvalidCourse => k_is)
    (case q_InvalidState => k_exc)
    (case kp_InvalidState => k_is)
    (case i_InvalidCourse => k_is)
    (case u_InvalidCourse_InvalidCourse => first | rfl | k_is)
    (case u_InvalidState_InvalidCourse => first | rfl | k_is)
    (case g_Course => k_is)
    (case pg_Course => k_is)
    (case hd_Course => k_is)
    (case po_Course => k_is)
    (case sa_Course => k_is)
    (case mk_Course => k_is)
    (case kc_Course => k_is)
    (case n_Course_hours => k_is)
    (case a_L_cell => k_is)
    (case l_L_cell => k_is)
    (case c_L_cell => k_is)
    (case k_L_cell => k_is)
    (case a_L_hours => k_is)
    (case l_L_hours => k_is)
    (case c_L_hours => k_is)
    (case k_L_hours => k_is)
    (case a_is_whole => k_is)
    (case l_is_whole => k_is)
    (case c_is_whole => k_is)
    (case k_is_whole => k_is)
    (case a_check_hour => k_is)
    (case l_check_hour => k_is)
    (case c_check_hour => k_is)
    (case k_check_hour => k_is)
    (case a_Course___init__ => k_is)
    (case if_Course___init__ => k_is)
    (case l_Course___init__ => k_is)
    (case c_Course___init__ => k_is)
    (case k_Course___init__ => k_is)
    (case a_Course_count => k_is)
    (case if_Course_count => k_is)
    (case l_Course_count => k_is)
    (case c_Course_count => k_is)
    (case k_Course_count => k_is)
    (case a_Course_hour => k_is)
    (case if_Course_hour => k_is)
    (case l_Course_hour => k_is)
    (case c_Course_hour => k_is)
    (case k_Course_hour => k_is)
    (case a_Course_narrowed => k_is)
    (case if_Course_narrowed => k_is)
    (case l_Course_narrowed => k_is)
    (case c_Course_narrowed => k_is)
    (case k_Course_narrowed => k_is)
    (case a_L_narrowed => k_is)
    (case l_L_narrowed => k_is)
    (case c_L_narrowed => k_is)
    (case k_L_narrowed => k_is)
    (case a_Course_has => k_is)
    (case if_Course_has => k_is)
    (case l_Course_has => k_is)
    (case c_Course_has => k_is)
    (case k_Course_has => k_is)
    (case a_Course_raised => k_is)
    (case if_Course_raised => k_is)
    (case l_Course_raised => k_is)
    (case c_Course_raised => k_is)
    (case k_Course_raised => k_is)
    (case a_L_too_high => k_is)
    (case l_L_too_high => k_is)
    (case c_L_too_high => k_is)
    (case k_L_too_high => k_is)
    (case a_law => k_is)
    (case l_law => k_is)
    (case c_law => k_is)
    (case k_law => k_is)
#print axioms PySem.Challenge.cw_surgekept_k22_courses_narrowed_and_raise_holds
