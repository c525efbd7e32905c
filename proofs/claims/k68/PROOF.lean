import PyProof.Rows.All
import Wide.All
import OpenK.AllK
import Wide.FinOn
import HandS.ForMost
import HandS.IsInst
import HandS.SetFor
import HandS.Conv
import HandS.Wide
import HandS.OwnEq
import HandS.Lambda
import HandS.Style
import HandS.Codes
import HandS.TupMul
import HandS.Walk
import HandS.TupSets
import PyProof.InstNe
import HandS.ForExc
import HandS.ExcInit
import HandS.ExcField
import HandS.Defaults
import HandS.Zip
import HandS.Strs
import HandS.TryMany
import HandS.TryOnly
import HandS.Nested
import HandS.DictTup
import HandS.SortRule
import HandS.TupLe
import KE.KDictDisplayH
import KE.KDictList
import HandS.EndTab
import HandS.WordsExc
import HandS.EndOwn
import KE.GoesEnum
import PySem.Challenge.RW_elderdraw_k68_whole_signs_more_than_once
set_option Elab.async false
set_option linter.all false
set_option maxRecDepth 100000
set_option maxHeartbeats 2000000
namespace El
open PySem PySem.Spec L2
/-- the law's tables of code objects, each with the one name of its lambdas -/
class LawTabs where
  T : List (Addr × Str)
variable [LawTabs]

/-! ### heaps -/
def Ex (H H' : Hp) : Prop := ∀ a o, H a = some o → H' a = some o
theorem Ex.refl (H : Hp) : Ex H H := fun _ _ h => h
theorem Ex.trans {H H1 H2 : Hp} (a : Ex H H1) (b : Ex H1 H2) : Ex H H2 := fun x o h => b x o (a x o h)
theorem Ex.new {H : Hp} {p : Addr} {o : HO} (h : H p = none) : Ex H (upd H p o) := fun a u e => by
  rw [upd_ne (ne_of_none e h)]
  exact e
theorem Ex.mut {H H' : Hp} {p : Addr} {o : HO} (e : Ex H H') (h : H p = none) : Ex H (upd H' p o) := fun a u ha => by
  rw [upd_ne (ne_of_none ha h)]
  exact e a u ha
theorem Ex.free {H H' : Hp} (e : Ex H H') {p : Addr} (h : H' p = none) : H p = none := by
  cases q : H p with
  | none => rfl
  | some o => rw [e p o q] at h; cases h
theorem Ex.both {F H : Hp} {p : Addr} {o : HO} (e : Ex F H) : Ex (upd F p o) (upd H p o) := fun a u h => by
  by_cases q : a = p
  · subst q; rw [upd_same] at h ⊢; exact h
  · rw [upd_ne q] at h ⊢; exact e a u h
/-- a table of code objects at P, all of the name q and frozen -/
def TabF (F H : Hp) (P : Addr) (q : Str) : Prop := F P = none ∧ ∃ ps : Array Value, H P = some (.tbl ps) ∧ TriplesOk ps.toList ∧ ∀ (pos : Pos) (cv : Value), codeAmong pos ps.toList = some cv → ∃ c, cv = .ref c ∧ F c = some (LamX.CodeO c q)
def NoTab (b : Addr) : Prop := ∀ p ∈ LawTabs.T, p.1 ≠ b
/-- F the frozen part of H; the law's tables stand in H -/
structure ExT (F H : Hp) : Prop where
  ex : Ex F H
  tb : ∀ p ∈ LawTabs.T, TabF F H p.1 p.2
  tt : ∀ b xs, H b = some (.tup xs) → F b = some (.tup xs)
instance {F H : Hp} : CoeFun (ExT F H) (fun _ => ∀ a o, F a = some o → H a = some o) := ⟨fun e => e.ex⟩
theorem ExT.free {F H : Hp} (e : ExT F H) {p : Addr} (h : H p = none) : F p = none := e.ex.free h
theorem ExT.notab {F H : Hp} (e : ExT F H) {p : Addr} (h : H p = none) : NoTab p := fun q hq z => by
  obtain ⟨_, ps, h1, _⟩ := e.tb q hq
  rw [z, h] at h1
  cases h1
theorem ExT.mut {F H : Hp} {p : Addr} {o : HO} (e : ExT F H) (h : F p = none) (n : NoTab p) (no : ∀ xs, o ≠ .tup xs := by intro _ z; cases z) : ExT F (upd H p o) := ⟨e.ex.mut h, fun q hq => by
  obtain ⟨h0, ps, h1, h2, h3⟩ := e.tb q hq
  exact ⟨h0, ps, by rw [upd_ne (n q hq)]; exact h1, h2, h3⟩, fun b xs hb => by
  by_cases z : b = p
  · subst z; rw [upd_same] at hb; exact absurd (Option.some.inj hb) (no xs)
  · rw [upd_ne z] at hb; exact e.tt b xs hb⟩
theorem ExT.mutN {F H : Hp} {p : Addr} {o : HO} (e : ExT F H) (h : H p = none) (no : ∀ xs, o ≠ .tup xs := by intro _ z; cases z) : ExT F (upd H p o) := e.mut (e.free h) (e.notab h) no
theorem ExT.grow {F F' H : Hp} (e : ExT F H) (f : Ex F F') (fh : Ex F' H) (n : ∀ p ∈ LawTabs.T, F' p.1 = none) : ExT F' H := ⟨fh, fun q hq => by
  obtain ⟨h0, ps, h1, h2, h3⟩ := e.tb q hq
  exact ⟨n q hq, ps, h1, h2, fun pos cv hc => by obtain ⟨c, e1, e2⟩ := h3 pos cv hc; exact ⟨c, e1, f _ _ e2⟩⟩, fun b xs hb => f _ _ (e.tt b xs hb)⟩
theorem ExT.both {F H : Hp} {p : Addr} {o : HO} (e : ExT F H) (h : H p = none) : ExT (upd F p o) (upd H p o) := ⟨e.ex.both, fun q hq => by
  obtain ⟨h0, ps, h1, h2, h3⟩ := e.tb q hq
  have z := e.notab h q hq
  exact ⟨by rw [upd_ne z]; exact h0, ps, by rw [upd_ne z]; exact h1, h2, fun pos cv hc => by obtain ⟨c, e1, e2⟩ := h3 pos cv hc; exact ⟨c, e1, Ex.new (e.free h) _ _ e2⟩⟩, fun b xs hb => by
  by_cases z : b = p
  · subst z; rw [upd_same] at hb ⊢; exact hb
  · rw [upd_ne z] at hb ⊢; exact e.tt b xs hb⟩
/-- growth: F the frozen part, H all; M may be changed, and the law's tables -/
structure Gr (M : Addr → Prop) (F H F' H' : Hp) : Prop where
  ff : Ex F F'
  fh : ExT F' H'
  hh0 : ∀ b o, ¬ M b → NoTab b → H b = some o → H' b = some o
  nw : ∀ b, ¬ M b → H b ≠ none → F b = none → F' b = none
  dm : ∀ b, H b ≠ none → H' b ≠ none
  t0 : ∀ p ∈ LawTabs.T, ∃ ps, H p.1 = some (.tbl ps)
abbrev M0 : Addr → Prop := fun _ => False
abbrev M1 (a : Addr) : Addr → Prop := fun b => b = a
theorem ExT.t0 {F H : Hp} (e : ExT F H) : ∀ p ∈ LawTabs.T, ∃ ps, H p.1 = some (.tbl ps) := fun p hp => by
  obtain ⟨_, ps, h1, _⟩ := e.tb p hp
  exact ⟨ps, h1⟩
theorem notab_of {H : Hp} (t : ∀ p ∈ LawTabs.T, ∃ ps, H p.1 = some (.tbl ps)) {b : Addr} {o : HO} (h : H b = some o) (n : ∀ ps, o ≠ .tbl ps) : NoTab b := fun q hq z => by
  obtain ⟨ps, h1⟩ := t q hq
  rw [z, h] at h1
  exact n ps (Option.some.inj h1)
theorem notab_none {H : Hp} (t : ∀ p ∈ LawTabs.T, ∃ ps, H p.1 = some (.tbl ps)) {b : Addr} (h : H b = none) : NoTab b := fun q hq z => by
  obtain ⟨ps, h1⟩ := t q hq
  rw [z, h] at h1
  cases h1
theorem Gr.hh {M : Addr → Prop} {F H F' H' : Hp} (g : Gr M F H F' H') (b : Addr) (o : HO) (m : ¬ M b) (h : H b = some o) (n : ∀ ps, o ≠ .tbl ps := by intro _ z; cases z) : H' b = some o := g.hh0 b o m (notab_of g.t0 h n) h
theorem Gr.refl {M : Addr → Prop} {F H : Hp} (e : ExT F H) : Gr M F H F H := ⟨Ex.refl F, e, fun _ _ _ _ h => h, fun _ _ _ h => h, fun _ h => h, e.t0⟩
theorem Gr.trans {M : Addr → Prop} {F H F1 H1 F2 H2 : Hp} (a : Gr M F H F1 H1) (b : Gr M F1 H1 F2 H2) : Gr M F H F2 H2 :=
  ⟨a.ff.trans b.ff, b.fh, fun c o m t h => b.hh0 c o m t (a.hh0 c o m t h), fun c m h n => b.nw c m (a.dm c h) (a.nw c m h n), fun c h => b.dm c (a.dm c h), a.t0⟩
theorem Gr.mono {M M' : Addr → Prop} {F H F1 H1 : Hp} (a : Gr M F H F1 H1) (m : ∀ b, M b → M' b) : Gr M' F H F1 H1 :=
  ⟨a.ff, a.fh, fun c o n t h => a.hh0 c o (fun z => n (m c z)) t h, fun c n h => a.nw c (fun z => n (m c z)) h, a.dm, a.t0⟩
theorem Gr.up {M : Addr → Prop} {F H F1 H1 : Hp} (a : Gr M0 F H F1 H1) : Gr M F H F1 H1 := a.mono fun _ z => z.elim
theorem Gr.hx {F H F1 H1 : Hp} (a : Gr M0 F H F1 H1) (b : Addr) (o : HO) (h : H b = some o) (n : ∀ ps, o ≠ .tbl ps := by intro _ z; cases z) : H1 b = some o := a.hh b o (fun z => z) h n
theorem Gr.free {M : Addr → Prop} {F H F1 H1 : Hp} (a : Gr M F H F1 H1) {p : Addr} (h : H1 p = none) : H p = none := by
  cases q : H p with
  | none => rfl
  | some o => exact absurd h (a.dm p (by rw [q]; exact fun z => nomatch z))
/-- a new thing, frozen -/
theorem Gr.new {M : Addr → Prop} {F H : Hp} {p : Addr} {o : HO} (e : ExT F H) (h : H p = none) : Gr M F H (upd F p o) (upd H p o) where
  ff := Ex.new (e.free h)
  fh := e.both h
  hh0 := fun b u _ _ q => Ex.new h b u q
  nw := fun b _ q n => by
    by_cases z : b = p
    · subst z; exact absurd h q
    · rw [upd_ne z]; exact n
  dm := fun b q => by
    by_cases z : b = p
    · subst z; rw [upd_same]; exact fun x => nomatch x
    · rw [upd_ne z]; exact q
  t0 := e.t0
/-- a new thing that may change -/
theorem Gr.loc {M : Addr → Prop} {F H : Hp} {p : Addr} {o : HO} (e : ExT F H) (h : H p = none) (no : ∀ xs, o ≠ .tup xs := by intro _ z; cases z) : Gr M F H F (upd H p o) where
  ff := Ex.refl F
  fh := e.mutN h no
  hh0 := fun b u _ _ q => Ex.new h b u q
  nw := fun b _ q n => n
  dm := fun b q => by
    by_cases z : b = p
    · subst z; rw [upd_same]; exact fun x => nomatch x
    · rw [upd_ne z]; exact q
  t0 := e.t0
/-- a change of what stands outside of F -/
theorem Gr.set {M : Addr → Prop} {F H : Hp} {p : Addr} {o : HO} (e : ExT F H) (h : F p = none) (m : M p) (t : NoTab p) (no : ∀ xs, o ≠ .tup xs := by intro _ z; cases z) : Gr M F H F (upd H p o) where
  ff := Ex.refl F
  fh := e.mut h t no
  hh0 := fun b u n _ q => by
    have z : b ≠ p := fun z => n (z ▸ m)
    rw [upd_ne z]; exact q
  nw := fun b _ q n => n
  dm := fun b q => by
    by_cases z : b = p
    · subst z; rw [upd_same]; exact fun x => nomatch x
    · rw [upd_ne z]; exact q
  t0 := e.t0
/-- behind an entry (F₀, H₀), a change of what is younger -/
theorem Gr.set' {M : Addr → Prop} {F0 H0 F H : Hp} {p : Addr} {o : HO} (g : Gr M F0 H0 F H) (h : F p = none) (n : H0 p = none ∨ (M p ∧ NoTab p)) (no : ∀ xs, o ≠ .tup xs := by intro _ z; cases z) : Gr M F0 H0 F (upd H p o) where
  ff := g.ff
  fh := g.fh.mut h (n.elim (notab_none g.t0) And.right) no
  hh0 := fun b u m t q => by
    have z : b ≠ p := fun z => by
      subst z
      rcases n with n | n
      · rw [n] at q; cases q
      · exact m n.1
    rw [upd_ne z]; exact g.hh0 b u m t q
  nw := g.nw
  dm := fun b q => by
    by_cases z : b = p
    · subst z; rw [upd_same]; exact fun x => nomatch x
    · rw [upd_ne z]; exact g.dm b q
  t0 := g.t0
/-- a thing that may change is frozen from here on -/
theorem Gr.frz {M : Addr → Prop} {F0 H0 F H : Hp} {p : Addr} {o : HO} (g : Gr M F0 H0 F H) (h : H p = some o) (n : F0 p = none) (n2 : H0 p = none ∨ (M p ∧ NoTab p)) (n3 : F p = none := by assumption) : Gr M F0 H0 (upd F p o) H where
  ff := fun b u q => by
    rw [upd_ne (ne_of_none q n)]; exact g.ff b u q
  fh := g.fh.grow (Ex.new n3) (fun b u q => by
    by_cases z : b = p
    · subst z; rw [upd_same] at q; cases q; exact h
    · rw [upd_ne z] at q; exact g.fh b u q) fun q hq => by
      rw [upd_ne ((n2.elim (notab_none g.t0) And.right) q hq)]
      exact (g.fh.tb q hq).1
  hh0 := g.hh0
  nw := fun b w q m => by
    have z : b ≠ p := fun z => by
      subst z
      rcases n2 with n2 | n2
      · exact q n2
      · exact w n2.1
    rw [upd_ne z]; exact g.nw b w q m
  dm := g.dm
  t0 := g.t0
theorem Gr.nn {F H F' H' : Hp} {p : Addr} {o : HO} (g : Gr M0 F H F' H') (h : H p = some o) (n : F p = none) : F' p = none := g.nw p (fun z => z) (by rw [h]; exact fun z => nomatch z) n
theorem ExT.frz {F H : Hp} {p : Addr} {o : HO} (e : ExT F H) (h : H p = some o) (n : F p = none) : Ex F (upd F p o) := fun b u q => by
  rw [upd_ne (ne_of_none q n)]; exact q

theorem ExT.make {F H : Hp} {x dx : Addr} {u w : HO} (e : ExT F H) (nx : H x = none) (ndx : H dx = none) (nex : x ≠ dx) (nu : ∀ xs, u ≠ .tup xs := by intro _ z; cases z) (nw : ∀ xs, w ≠ .tup xs := by intro _ z; cases z) : ExT F (upd (upd H dx w) x u) := (e.mutN ndx nw).mutN (by rw [upd_ne nex]; exact nx) nu
/-- what C(..) makes, in general -/
theorem Gr.made {M : Addr → Prop} {F H F' H' : Hp} {x dx : Addr} {u w : HO} (nx : H x = none) (ndx : H dx = none) (nex : x ≠ dx) (g : Gr (M1 x) F (upd (upd H dx w) x u) F' H') (hu : ∀ ps, u ≠ .tbl ps := by intro _ z; cases z) (hw : ∀ ps, w ≠ .tbl ps := by intro _ z; cases z) : Gr M0 F H F' H' := ⟨g.ff, g.fh, fun b o _ t h => by
    have b1 : b ≠ x := fun z => by subst z; rw [nx] at h; cases h
    have b2 : b ≠ dx := fun z => by subst z; rw [ndx] at h; cases h
    exact g.hh0 b o b1 t (by rw [upd_ne b1, upd_ne b2]; exact h), fun b _ h n => by
    have b1 : b ≠ x := fun z => h (z ▸ nx)
    have b2 : b ≠ dx := fun z => h (z ▸ ndx)
    exact g.nw b b1 (by rw [upd_ne b1, upd_ne b2]; exact h) n, fun b h => by
    have b1 : b ≠ x := fun z => h (z ▸ nx)
    have b2 : b ≠ dx := fun z => h (z ▸ ndx)
    exact g.dm b (by rw [upd_ne b1, upd_ne b2]; exact h), fun p hp => by
    obtain ⟨ps, h1⟩ := g.t0 p hp
    have b1 : p.1 ≠ x := fun z => by rw [z, upd_same] at h1; exact hu ps (Option.some.inj h1)
    rw [upd_ne b1] at h1
    have b2 : p.1 ≠ dx := fun z => by rw [z, upd_same] at h1; exact hw ps (Option.some.inj h1)
    rw [upd_ne b2] at h1
    exact ⟨ps, h1⟩⟩

/-! ### what a value stands for -/
abbrev Rp (α : Type) := Hp → V → α → Prop
class Mn {α : Type} (R : Rp α) : Prop where
  mono : ∀ {H H' : Hp} {v : V} {x : α}, Ex H H' → R H v x → R H' v x
def rInt : Rp Int := fun _ v i => v = .int i
def rNat : Rp Nat := fun _ v i => v = .int (i : Int)
def rBl : Rp Bool := fun _ v i => v = .bl i
def rStr : Rp Str := fun _ v i => v = .str i
def rNon : Rp Unit := fun _ v _ => v = .non
def rLst {α : Type} (R : Rp α) : Rp (List α) := fun H v xs => ∃ a vs, v = .ref a ∧ H a = some (.lst vs) ∧ Paired (R H) vs xs
def rTup {α : Type} (R : Rp α) : Rp (List α) := fun H v xs => ∃ a vs, v = .ref a ∧ H a = some (.tup vs) ∧ Paired (R H) vs xs
def rPr {α β : Type} (R : Rp α) (S : Rp β) : Rp (α × β) := fun H v p => ∃ a x y, v = .ref a ∧ H a = some (.tup [x, y]) ∧ R H x p.1 ∧ S H y p.2
def rOpt {α : Type} (R : Rp α) : Rp (Option α) := fun H v x => match x with
  | none => v = .non
  | some y => R H v y
instance : Mn rInt := ⟨fun _ h => h⟩
instance : Mn rNat := ⟨fun _ h => h⟩
instance : Mn rBl := ⟨fun _ h => h⟩
instance : Mn rStr := ⟨fun _ h => h⟩
instance : Mn rNon := ⟨fun _ h => h⟩
theorem Paired.up {α : Type} {R : Rp α} [m : Mn R] {H H' : Hp} (e : Ex H H') {vs : List V} {xs : List α} (h : Paired (R H) vs xs) : Paired (R H') vs xs := L2.Paired.mapP h fun _ _ q => m.mono e q
instance {α : Type} {R : Rp α} [Mn R] : Mn (rLst R) := ⟨fun e ⟨a, vs, h1, h2, h3⟩ => ⟨a, vs, h1, e _ _ h2, Paired.up e h3⟩⟩
instance {α : Type} {R : Rp α} [Mn R] : Mn (rTup R) := ⟨fun e ⟨a, vs, h1, h2, h3⟩ => ⟨a, vs, h1, e _ _ h2, Paired.up e h3⟩⟩
instance {α β : Type} {R : Rp α} {S : Rp β} [m : Mn R] [n : Mn S] : Mn (rPr R S) := ⟨fun e ⟨a, x, y, h1, h2, h3, h4⟩ => ⟨a, x, y, h1, e _ _ h2, m.mono e h3, n.mono e h4⟩⟩
instance {α : Type} {R : Rp α} [m : Mn R] : Mn (rOpt R) := ⟨fun {H H' v x} e h => by
  cases x with
  | none => exact h
  | some y => exact m.mono e h⟩
theorem Paired.get {α β : Type} {F : α → β → Prop} : ∀ {as : List α} {bs : List β} {i : Nat} {b : β}, Paired F as bs → bs[i]? = some b → ∃ a, as[i]? = some a ∧ F a b
  | _, _, _, _, .nil, e => by simp at e
  | _, _, 0, _, .cons r _, e => by simp at e; subst e; exact ⟨_, rfl, r⟩
  | _, _, i + 1, _, .cons _ t, e => by
    obtain ⟨a, h1, h2⟩ := Paired.get t (i := i) (by simpa using e)
    exact ⟨a, by simpa using h1, h2⟩
theorem Paired.getL {α β : Type} {F : α → β → Prop} : ∀ {as : List α} {bs : List β} {i : Nat} {a : α}, Paired F as bs → as[i]? = some a → ∃ b, bs[i]? = some b ∧ F a b
  | _, _, _, _, .nil, e => by simp at e
  | _, _, 0, _, .cons r _, e => by simp at e; subst e; exact ⟨_, rfl, r⟩
  | _, _, i + 1, _, .cons _ t, e => by
    obtain ⟨a, h1, h2⟩ := Paired.getL t (i := i) (by simpa using e)
    exact ⟨a, by simpa using h1, h2⟩
theorem Paired.app {α β : Type} {F : α → β → Prop} : ∀ {as cs : List α} {bs ds : List β}, Paired F as bs → Paired F cs ds → Paired F (as ++ cs) (bs ++ ds)
  | _, _, _, _, .nil, h => h
  | _, _, _, _, .cons r t, h => .cons r (Paired.app t h)
theorem Paired.take {α β : Type} {F : α → β → Prop} : ∀ {as : List α} {bs : List β} (n : Nat), Paired F as bs → Paired F (as.take n) (bs.take n)
  | _, _, 0, _ => .nil
  | _, _, _ + 1, .nil => .nil
  | _, _, n + 1, .cons r t => .cons r (Paired.take n t)
theorem Paired.drop {α β : Type} {F : α → β → Prop} : ∀ {as : List α} {bs : List β} (n : Nat), Paired F as bs → Paired F (as.drop n) (bs.drop n)
  | _, _, 0, h => h
  | _, _, _ + 1, .nil => .nil
  | _, _, n + 1, .cons r t => Paired.drop n t
theorem Paired.rev {α β : Type} {F : α → β → Prop} : ∀ {as : List α} {bs : List β}, Paired F as bs → Paired F as.reverse bs.reverse
  | _, _, .nil => .nil
  | _, _, .cons r t => by
    rw [List.reverse_cons, List.reverse_cons]
    exact Paired.app (Paired.rev t) (.cons r .nil)
theorem Paired.set {α β : Type} {F : α → β → Prop} {a : α} {b : β} (r : F a b) : ∀ {as : List α} {bs : List β} (n : Nat), Paired F as bs → Paired F (as.set n a) (bs.set n b)
  | _, _, _, .nil => .nil
  | _, _, 0, .cons _ t => .cons r t
  | _, _, n + 1, .cons q t => .cons q (Paired.set r n t)
/-- ints as they stand -/
theorem ints_paired {H : Hp} : ∀ {vs : List V} {ns : List Int}, Paired (rInt H) vs ns → vs = ns.map V.int
  | _, _, .nil => rfl
  | _, _, .cons r t => by rw [List.map_cons, ints_paired t, show _ = _ from r]
theorem paired_ints {H : Hp} : ∀ ns : List Int, Paired (rInt H) (ns.map V.int) ns
  | [] => .nil
  | n :: ns => .cons rfl (paired_ints ns)
theorem nats_paired {H : Hp} : ∀ {vs : List V} {ns : List Nat}, Paired (rNat H) vs ns → vs = (ns.map fun n : Nat => (n : Int)).map V.int
  | _, _, .nil => rfl
  | _, _, .cons r t => by rw [List.map_cons, List.map_cons, ← nats_paired t, show _ = _ from r]
theorem bls_paired {H : Hp} : ∀ {vs : List V} {ns : List Bool}, Paired (rBl H) vs ns → vs = ns.map V.bl
  | _, _, .nil => rfl
  | _, _, .cons r t => by rw [List.map_cons, ← bls_paired t, show _ = _ from r]
theorem strs_paired {H : Hp} : ∀ {vs : List V} {ns : List Str}, Paired (rStr H) vs ns → vs = ns.map V.str
  | _, _, .nil => rfl
  | _, _, .cons r t => by rw [List.map_cons, ← strs_paired t, show _ = _ from r]

/-! ### what evaluates to what -/
def Ev {α : Type} (R : Rp α) (te : TE) (σ : St) (F H : Hp) (x : α) : Prop :=
  ∀ F1 H1, Gr M0 F H F1 H1 → ∀ Q : VK, (∀ v F2 H2, Gr M0 F1 H1 F2 H2 → R F2 v x → Q v H2) → te σ H1 Q
def EvT (tt : TT) (σ : St) (F H : Hp) (b : Bool) : Prop :=
  ∀ F1 H1, Gr M0 F H F1 H1 → ∀ Q : Bool → Hp → Prop, (∀ F2 H2, Gr M0 F1 H1 F2 H2 → Q b H2) → tt σ H1 Q
def EvA (ta : TA) (σ : St) (F H : Hp) (P : Hp → List V → Prop) : Prop :=
  ∀ F1 H1, Gr M0 F H F1 H1 → ∀ Q : List V → Hp → Prop, (∀ vs F2 H2, Gr M0 F1 H1 F2 H2 → P F2 vs → Q vs H2) → ta σ H1 Q
section
variable {K : PySem.W.Frag} {σ : St} {F H F' H' : Hp} {ta tb tc te : TE} {t u : TT} {α β γ δ ε : Type} {R : Rp α} {S : Rp β} {T : Rp γ} {x : α} {y : β} {z : γ}
theorem Ev.mono (g : Gr M0 F H F' H') (h : Ev R te σ F H x) : Ev R te σ F' H' x := fun F1 H1 g1 Q q => h F1 H1 (g.trans g1) Q q
theorem EvT.mono {b : Bool} (g : Gr M0 F H F' H') (h : EvT t σ F H b) : EvT t σ F' H' b := fun F1 H1 g1 Q q => h F1 H1 (g.trans g1) Q q
theorem Ev.is {x' : α} (h : Ev R te σ F H x) (e : x = x') : Ev R te σ F H x' := e ▸ h
theorem EvT.is {b b' : Bool} (h : EvT t σ F H b) (e : b = b') : EvT t σ F H b' := e ▸ h
/-- another reading of the value -/
theorem Ev.as (h : Ev R te σ F H x) (c : ∀ F v, R F v x → S F v y) : Ev S te σ F H y := fun F1 H1 g Q q => h F1 H1 g Q fun v F2 H2 g2 r => q v F2 H2 g2 (c F2 v r)
theorem Ev.nat {n : Nat} (h : Ev rNat te σ F H n) : Ev rInt te σ F H (n : Int) := h
theorem Ev.toNat {n : Nat} (h : Ev rInt te σ F H (n : Int)) : Ev rNat te σ F H n := h
theorem ev_var {i : Nat} {v : V} (h : σ[i]? = some (some v)) (r : R F v x) (m : Mn R := by infer_instance) : Ev R (tVar i) σ F H x := fun F1 H1 g Q q => ⟨v, h, q v F1 H1 (.refl g.fh) (m.mono g.ff r)⟩
theorem ev_int {i : Int} : Ev rInt (tC (.int i)) σ F H i := fun F1 H1 g Q q => q _ F1 H1 (.refl g.fh) rfl
theorem ev_bl {i : Bool} : Ev rBl (tC (.bl i)) σ F H i := fun F1 H1 g Q q => q _ F1 H1 (.refl g.fh) rfl
theorem ev_str {i : Str} : Ev rStr (tC (.str i)) σ F H i := fun F1 H1 g Q q => q _ F1 H1 (.refl g.fh) rfl
theorem ev_non : Ev rNon (tC .non) σ F H () := fun F1 H1 g Q q => q _ F1 H1 (.refl g.fh) rfl
theorem ev_noneO : Ev (rOpt R) (tC .non) σ F H none := fun F1 H1 g Q q => q _ F1 H1 (.refl g.fh) rfl
theorem ev_someO (h : Ev R te σ F H x) : Ev (rOpt R) te σ F H (some x) := h
/-- operators of two ints -/
theorem ev_I0 {g : Int → Int → V} {i j : Int} (ha : Ev rInt ta σ F H i) (hb : Ev rInt tb σ F H j) (hz : ∀ F, R F (g i j) x) : Ev R (tOp (rI0 g) ta tb) σ F H x := fun F1 H1 g1 Q q =>
  ha F1 H1 g1 _ fun v F2 H2 g2 r => hb F2 H2 (g1.trans g2) _ fun w F3 H3 g3 r2 => ⟨i, j, r, r2, q _ F3 H3 (g2.trans g3) (hz F3)⟩
theorem ev_I {C : Int → Int → Prop} {g : Int → Int → V} {i j : Int} (ha : Ev rInt ta σ F H i) (hb : Ev rInt tb σ F H j) (hc : C i j) (hz : ∀ F, R F (g i j) x) : Ev R (tOp (rI C g) ta tb) σ F H x := fun F1 H1 g1 Q q =>
  ha F1 H1 g1 _ fun v F2 H2 g2 r => hb F2 H2 (g1.trans g2) _ fun w F3 H3 g3 r2 => ⟨i, j, r, r2, hc, q _ F3 H3 (g2.trans g3) (hz F3)⟩
variable {i j : Int}
theorem ev_add (ha : Ev rInt ta σ F H i) (hb : Ev rInt tb σ F H j) : Ev rInt (tOp (rI0 fun i j => .int (i + j)) ta tb) σ F H (i + j) := ev_I0 ha hb fun _ => rfl
theorem ev_sub (ha : Ev rInt ta σ F H i) (hb : Ev rInt tb σ F H j) : Ev rInt (tOp (rI0 fun i j => .int (i - j)) ta tb) σ F H (i - j) := ev_I0 ha hb fun _ => rfl
theorem ev_mul (ha : Ev rInt ta σ F H i) (hb : Ev rInt tb σ F H j) (hc : CMul i j) : Ev rInt (tOp (rI CMul fun i j => .int (i * j)) ta tb) σ F H (i * j) := ev_I ha hb hc fun _ => rfl
theorem ev_mulW (ha : Ev rInt ta σ F H i) (hb : Ev rInt tb σ F H j) (hc : CMulW i j) : Ev rInt (tOp (rI CMulW fun i j => .int (i * j)) ta tb) σ F H (i * j) := ev_I ha hb hc fun _ => rfl
theorem ev_fdiv (ha : Ev rInt ta σ F H i) (hb : Ev rInt tb σ F H j) (hc : CDiv i j) : Ev rInt (tOp (rI CDiv fun i j => .int (i / j)) ta tb) σ F H (i / j) := ev_I ha hb hc fun _ => rfl
theorem ev_mod (ha : Ev rInt ta σ F H i) (hb : Ev rInt tb σ F H j) (hc : 0 < j) : Ev rInt (tOp (rI (fun _ j => 0 < j) fun i j => .int (i % j)) ta tb) σ F H (i % j) := ev_I ha hb hc fun _ => rfl
theorem ev_pow (ha : Ev rInt ta σ F H i) (hb : Ev rInt tb σ F H j) (hc : CPow i j) : Ev rInt (tOp (rI CPow fun i j => .int (i ^ j.toNat)) ta tb) σ F H (i ^ j.toNat) := ev_I ha hb hc fun _ => rfl
theorem ev_lt (ha : Ev rInt ta σ F H i) (hb : Ev rInt tb σ F H j) : Ev rBl (tOp (rI0 fun i j => .bl (decide (i < j))) ta tb) σ F H (decide (i < j)) := ev_I0 ha hb fun _ => rfl
theorem ev_le (ha : Ev rInt ta σ F H i) (hb : Ev rInt tb σ F H j) : Ev rBl (tOp (rI0 fun i j => .bl (decide (i ≤ j))) ta tb) σ F H (decide (i ≤ j)) := ev_I0 ha hb fun _ => rfl
theorem ev_gt (ha : Ev rInt ta σ F H i) (hb : Ev rInt tb σ F H j) : Ev rBl (tOp (rI0 fun i j => .bl (decide (j < i))) ta tb) σ F H (decide (j < i)) := ev_I0 ha hb fun _ => rfl
theorem ev_ge (ha : Ev rInt ta σ F H i) (hb : Ev rInt tb σ F H j) : Ev rBl (tOp (rI0 fun i j => .bl (decide (j ≤ i))) ta tb) σ F H (decide (j ≤ i)) := ev_I0 ha hb fun _ => rfl
theorem ev_neg (ha : Ev rInt ta σ F H i) : Ev rInt (tUn (rU fun i => .int (-i)) ta) σ F H (-i) := fun F1 H1 g1 Q q => ha F1 H1 g1 _ fun v F2 H2 g2 r => ⟨i, r, q _ F2 H2 g2 rfl⟩
theorem ev_eqI (ha : Ev rInt ta σ F H i) (hb : Ev rInt tb σ F H j) : Ev rBl (tOp rEq ta tb) σ F H (decide (i = j)) := fun F1 H1 g1 Q q =>
  ha F1 H1 g1 _ fun v F2 H2 g2 r => hb F2 H2 (g1.trans g2) _ fun w F3 H3 g3 r2 => by
    cases (show v = V.int i from r)
    cases (show w = V.int j from r2)
    refine ⟨rfl, ?_⟩
    have e : decide (V.int i = V.int j) = decide (i = j) := by simp
    rw [e]
    exact q _ F3 H3 (g2.trans g3) rfl
theorem ev_neI (ha : Ev rInt ta σ F H i) (hb : Ev rInt tb σ F H j) : Ev rBl (tOp rNe ta tb) σ F H (!decide (i = j)) := fun F1 H1 g1 Q q =>
  ha F1 H1 g1 _ fun v F2 H2 g2 r => hb F2 H2 (g1.trans g2) _ fun w F3 H3 g3 r2 => by
    cases (show v = V.int i from r)
    cases (show w = V.int j from r2)
    refine ⟨rfl, ?_⟩
    have e : decide (V.int i = V.int j) = decide (i = j) := by simp
    rw [e]
    exact q _ F3 H3 (g2.trans g3) rfl
theorem ev_eqS {a b : Str} (ha : Ev rStr ta σ F H a) (hb : Ev rStr tb σ F H b) : Ev rBl (tOp rEq ta tb) σ F H (decide (a = b)) := fun F1 H1 g1 Q q =>
  ha F1 H1 g1 _ fun v F2 H2 g2 r => hb F2 H2 (g1.trans g2) _ fun w F3 H3 g3 r2 => by
    cases (show v = V.str a from r)
    cases (show w = V.str b from r2)
    refine ⟨rfl, ?_⟩
    have e : decide (V.str a = V.str b) = decide (a = b) := by simp
    rw [e]
    exact q _ F3 H3 (g2.trans g3) rfl
theorem ev_neS {a b : Str} (ha : Ev rStr ta σ F H a) (hb : Ev rStr tb σ F H b) : Ev rBl (tOp rNe ta tb) σ F H (!decide (a = b)) := fun F1 H1 g1 Q q =>
  ha F1 H1 g1 _ fun v F2 H2 g2 r => hb F2 H2 (g1.trans g2) _ fun w F3 H3 g3 r2 => by
    cases (show v = V.str a from r)
    cases (show w = V.str b from r2)
    refine ⟨rfl, ?_⟩
    have e : decide (V.str a = V.str b) = decide (a = b) := by simp
    rw [e]
    exact q _ F3 H3 (g2.trans g3) rfl
/-- is None -/
def rIsN : R2 := fun x y H Q => y = .non ∧ Q (.bl (decide (x = .non))) H
def rNotN : R2 := fun x y H Q => y = .non ∧ Q (.bl (!decide (x = .non))) H
theorem op_isN1 {X : Cx} : OpR X (compareOp .Is) rIsN := op_isN
theorem op_notN1 {X : Cx} : OpR X (compareOp .IsNot) rNotN := op_notN
class NotN {α : Type} (R : Rp α) : Prop where
  nn : ∀ {F v x}, R F v x → v ≠ .non
instance : NotN rInt := ⟨fun h e => by rw [show _ = _ from h] at e; cases e⟩
instance : NotN rNat := ⟨fun h e => by rw [show _ = _ from h] at e; cases e⟩
instance : NotN rStr := ⟨fun h e => by rw [show _ = _ from h] at e; cases e⟩
instance : NotN rBl := ⟨fun h e => by rw [show _ = _ from h] at e; cases e⟩
instance {α : Type} {R : Rp α} : NotN (rLst R) := ⟨fun ⟨_, _, h, _⟩ e => by rw [h] at e; cases e⟩
instance {α : Type} {R : Rp α} : NotN (rTup R) := ⟨fun ⟨_, _, h, _⟩ e => by rw [h] at e; cases e⟩
instance {α β : Type} {R : Rp α} {S : Rp β} : NotN (rPr R S) := ⟨fun ⟨_, _, _, h, _⟩ e => by rw [h] at e; cases e⟩
theorem opt_isNone {R : Rp α} [n : NotN R] {v : V} {x : Option α} (h : rOpt R F v x) : decide (v = .non) = x.isNone := by
  cases x with
  | none => exact decide_eq_true h
  | some y => exact decide_eq_false (n.nn h)
theorem ev_isN {x : Option α} (ha : Ev (rOpt R) ta σ F H x) (n : NotN R := by infer_instance) : Ev rBl (tOp rIsN ta (tC .non)) σ F H x.isNone := fun F1 H1 g1 Q q =>
  ha F1 H1 g1 _ fun v F2 H2 g2 r => ⟨rfl, by rw [opt_isNone r]; exact q _ F2 H2 g2 rfl⟩
theorem ev_notN {x : Option α} (ha : Ev (rOpt R) ta σ F H x) (n : NotN R := by infer_instance) : Ev rBl (tOp rNotN ta (tC .non)) σ F H x.isSome := fun F1 H1 g1 Q q =>
  ha F1 H1 g1 _ fun v F2 H2 g2 r => ⟨rfl, by rw [opt_isNone r]; exact q _ F2 H2 g2 (by cases x <;> rfl)⟩
/-! tests -/
theorem et_test {b : Bool} (h : Ev rBl te σ F H b) : EvT (tTest te) σ F H b := fun F1 H1 g Q q => h F1 H1 g _ fun v F2 H2 g2 r => ⟨b, r, q F2 H2 g2⟩
theorem et_B {b : Bool} (h : Ev rBl te σ F H b) : EvT (tB te) σ F H b := fun F1 H1 g Q q => h F1 H1 g _ fun v F2 H2 g2 r => ⟨b, r, q F2 H2 g2⟩
theorem et_and {a b : Bool} (h1 : EvT t σ F H a) (h2 : a = true → EvT u σ F H b) : EvT (tAnd t u) σ F H (a && b) := fun F1 H1 g Q q => h1 F1 H1 g _ fun F2 H2 g2 => by
  cases a with
  | true => exact h2 rfl F2 H2 (g.trans g2) Q fun F3 H3 g3 => q F3 H3 (g2.trans g3)
  | false => exact q F2 H2 g2
theorem et_or {a b : Bool} (h1 : EvT t σ F H a) (h2 : a = false → EvT u σ F H b) : EvT (tOr t u) σ F H (a || b) := fun F1 H1 g Q q => h1 F1 H1 g _ fun F2 H2 g2 => by
  cases a with
  | true => exact q F2 H2 g2
  | false => exact h2 rfl F2 H2 (g.trans g2) Q fun F3 H3 g3 => q F3 H3 (g2.trans g3)
theorem et_not {a : Bool} (h1 : EvT t σ F H a) : EvT (tNot t) σ F H (!a) := fun F1 H1 g Q q => h1 F1 H1 g _ fun F2 H2 g2 => q F2 H2 g2
theorem ev_andV {a b : Bool} (h1 : Ev rBl ta σ F H a) (h2 : a = true → Ev rBl tb σ F H b) : Ev rBl (tAndV ta tb) σ F H (a && b) := fun F1 H1 g Q q => h1 F1 H1 g _ fun v F2 H2 g2 r => ⟨a, r, by
  cases a with
  | true => exact h2 rfl F2 H2 (g.trans g2) Q fun w F3 H3 g3 => q w F3 H3 (g2.trans g3)
  | false => exact q _ F2 H2 g2 rfl⟩
theorem ev_orV {a b : Bool} (h1 : Ev rBl ta σ F H a) (h2 : a = false → Ev rBl tb σ F H b) : Ev rBl (tOrV ta tb) σ F H (a || b) := fun F1 H1 g Q q => h1 F1 H1 g _ fun v F2 H2 g2 r => ⟨a, r, by
  cases a with
  | true => exact q _ F2 H2 g2 rfl
  | false => exact h2 rfl F2 H2 (g.trans g2) Q fun w F3 H3 g3 => q w F3 H3 (g2.trans g3)⟩
theorem ev_notV {a : Bool} (h1 : Ev rBl ta σ F H a) : Ev rBl (tNotV ta) σ F H (!a) := fun F1 H1 g Q q => h1 F1 H1 g _ fun v F2 H2 g2 r => ⟨a, r, q _ F2 H2 g2 rfl⟩
theorem ev_if {b : Bool} {x1 x2 : α} (h : EvT t σ F H b) (h1 : b = true → Ev R ta σ F H x1) (h2 : b = false → Ev R tb σ F H x2) : Ev R (tIf t ta tb) σ F H (if b = true then x1 else x2) := fun F1 H1 g Q q => h F1 H1 g _ fun F2 H2 g2 => by
  cases b with
  | true => exact h1 rfl F2 H2 (g.trans g2) Q fun w F3 H3 g3 r => q w F3 H3 (g2.trans g3) (by simpa using r)
  | false => exact h2 rfl F2 H2 (g.trans g2) Q fun w F3 H3 g3 r => q w F3 H3 (g2.trans g3) (by simpa using r)
theorem ev_chain {i j k : Int} {p p' : Int → Int → Bool} (ha : Ev rInt ta σ F H i) (hb : Ev rInt tb σ F H j) (hc : Ev rInt tc σ F H k) :
    Ev rBl (tChain (rI0 fun i j => .bl (p i j)) (rI0 fun i j => .bl (p' i j)) ta tb tc) σ F H (p i j && p' j k) := fun F1 H1 g1 Q q =>
  ha F1 H1 g1 _ fun v F2 H2 g2 r => hb F2 H2 (g1.trans g2) _ fun w F3 H3 g3 r2 => ⟨i, j, r, r2, p i j, rfl, by
    cases e : p i j with
    | true => exact hc F3 H3 ((g1.trans g2).trans g3) _ fun w2 F4 H4 g4 r3 => ⟨j, k, r2, r3, q _ F4 H4 ((g2.trans g3).trans g4) (by rw [e, Bool.true_and]; rfl)⟩
    | false => exact q _ F3 H3 (g2.trans g3) (by rw [e, Bool.false_and]; rfl)⟩
/-! arguments -/
theorem ea_nil : EvA tNil σ F H (fun _ vs => vs = []) := fun F1 H1 g Q q => q _ F1 H1 (.refl g.fh) rfl
theorem ea_cons {tr : TA} {P : Hp → List V → Prop} (h : Ev R te σ F H x) (hr : EvA tr σ F H P) (m : Mn R := by infer_instance) : EvA (tCons te tr) σ F H (fun F vs => ∃ v ws, vs = v :: ws ∧ R F v x ∧ P F ws) := fun F1 H1 g Q q =>
  h F1 H1 g _ fun v F2 H2 g2 r => hr F2 H2 (g.trans g2) _ fun ws F3 H3 g3 p => q _ F3 H3 (g2.trans g3) ⟨v, ws, rfl, m.mono g3.ff r, p⟩
end
end El

set_option Elab.async false
set_option linter.all false
set_option maxRecDepth 100000
set_option maxHeartbeats 2000000
namespace El
open PySem PySem.Spec L2
variable [LawTabs]
/-- a reference as it stands -/
def rRef : Rp Addr := fun _ v a => v = .ref a
def rTy : Rp String := fun _ v a => v = .ty a
instance : Mn rRef := ⟨fun _ h => h⟩
instance : Mn rTy := ⟨fun _ h => h⟩
section
variable {K : PySem.W.Frag} {σ : St} {F H F' H' : Hp} {ta tb tc te : TE} {t u : TT} {α β γ δ ε : Type} {R : Rp α} {S : Rp β} {T : Rp γ} {x : α} {y : β} {z : γ} {xs : List α} {i j : Int}
theorem ev_ref {a : Addr} : Ev rRef (tC (.ref a)) σ F H a := fun F1 H1 g Q q => q _ F1 H1 (.refl g.fh) rfl
theorem ev_ty {n : String} : Ev rTy (tC (.ty n)) σ F H n := fun F1 H1 g Q q => q _ F1 H1 (.refl g.fh) rfl

/-! ### index, slice, length -/
theorem atI_paired {f : V → α → Prop} {vs : List V} {xs : List α} {i : Int} {x : α} (p : Paired f vs xs) (h : atI xs i = some x) : ∃ v, atI vs i = some v ∧ f v x := by
  unfold atI at h ⊢
  rw [p.length]
  cases e : ixN xs.length i with
  | none => rw [e] at h; cases h
  | some j =>
    rw [e] at h
    exact El.Paired.get p h
theorem atI_natL {xs : List α} {n : Nat} {x : α} (h : xs[n]? = some x) : atI xs (n : Int) = some x := by
  have hl : n < xs.length := (List.getElem?_eq_some_iff.mp h).1
  unfold atI ixN
  rw [if_pos (by omega), if_pos (by omega)]
  exact h
theorem ev_ixL (ha : Ev (rLst R) ta σ F H xs) (hb : Ev rInt tb σ F H i) (h : atI xs i = some x) (m : Mn R := by infer_instance) : Ev R (tOp (rIxL K) ta tb) σ F H x := fun F1 H1 g1 Q q =>
  ha F1 H1 g1 _ fun v F2 H2 g2 ⟨a, vs, e, hl, p⟩ => hb F2 H2 (g1.trans g2) _ fun w F3 H3 g3 r2 => by
    obtain ⟨y, hy, ry⟩ := atI_paired p h
    exact ⟨a, vs, i, y, e, r2, SqL.of (g3.fh _ _ (g3.ff _ _ hl)), hy, q y F3 H3 (g2.trans g3) (m.mono g3.ff ry)⟩
theorem ev_ixT (ha : Ev (rTup R) ta σ F H xs) (hb : Ev rInt tb σ F H i) (h : atI xs i = some x) (m : Mn R := by infer_instance) : Ev R (tOp (rIxT K) ta tb) σ F H x := fun F1 H1 g1 Q q =>
  ha F1 H1 g1 _ fun v F2 H2 g2 ⟨a, vs, e, hl, p⟩ => hb F2 H2 (g1.trans g2) _ fun w F3 H3 g3 r2 => by
    obtain ⟨y, hy, ry⟩ := atI_paired p h
    exact ⟨a, vs, i, y, e, r2, SqT.of (g3.fh _ _ (g3.ff _ _ hl)), hy, q y F3 H3 (g2.trans g3) (m.mono g3.ff ry)⟩
theorem ev_fst {p : α × β} (ha : Ev (rPr R S) ta σ F H p) (m : Mn R := by infer_instance) : Ev R (tOp (rIxT K) ta (tC (.int 0))) σ F H p.1 := fun F1 H1 g1 Q q =>
  ha F1 H1 g1 _ fun v F2 H2 g2 ⟨a, u, w, e, hl, r1, r2⟩ => ⟨a, [u, w], 0, u, e, rfl, SqT.of (g2.fh _ _ hl), rfl, q u F2 H2 g2 r1⟩
theorem ev_snd {p : α × β} (ha : Ev (rPr R S) ta σ F H p) (m : Mn S := by infer_instance) : Ev S (tOp (rIxT K) ta (tC (.int 1))) σ F H p.2 := fun F1 H1 g1 Q q =>
  ha F1 H1 g1 _ fun v F2 H2 g2 ⟨a, u, w, e, hl, r1, r2⟩ => ⟨a, [u, w], 1, w, e, rfl, SqT.of (g2.fh _ _ hl), rfl, q w F2 H2 g2 r2⟩
/-- a list that may change, as it stands -/
theorem ev_ixM {a : Addr} {vs : List V} {v : V} (ha : Ev rRef ta σ F H a) (hb : Ev rInt tb σ F H i) (hl : H a = some (.lst vs)) (h : atI vs i = some v) (r : R F v x) (m : Mn R := by infer_instance) : Ev R (tOp (rIxL K) ta tb) σ F H x := fun F1 H1 g1 Q q =>
  ha F1 H1 g1 _ fun w F2 H2 g2 e => hb F2 H2 (g1.trans g2) _ fun w2 F3 H3 g3 r2 =>
    ⟨a, vs, i, v, e, r2, SqL.of (g3.hx _ _ (g2.hx _ _ (g1.hx _ _ hl))), h, q v F3 H3 (g2.trans g3) (m.mono ((g1.ff.trans g2.ff).trans g3.ff) r)⟩
def cut (xs : List α) (lo hi : Option Int) : List α := (xs.drop (HT.sIx xs.length 0 lo)).take (HT.sIx xs.length xs.length hi - HT.sIx xs.length 0 lo)
theorem cut_paired {f : V → α → Prop} {vs : List V} {xs : List α} {lo hi : Option Int} (p : Paired f vs xs) : Paired f (cutV vs lo hi) (cut xs lo hi) := by
  unfold cutV cut
  rw [p.length]
  exact Paired.take _ (Paired.drop _ p)
theorem cut_to {n : Nat} : cut xs none (some (n : Int)) = xs.take n := by
  unfold cut
  rw [HT.sIx_none, HT.sIx_nat, List.drop_zero, Nat.sub_zero]
  by_cases h : n ≤ xs.length
  · rw [Nat.min_eq_left h]
  · rw [Nat.min_eq_right (by omega), List.take_of_length_le (Nat.le_refl _), List.take_of_length_le (by omega)]
theorem cut_from {n : Nat} : cut xs (some (n : Int)) none = xs.drop n := by
  unfold cut
  rw [HT.sIx_none, HT.sIx_nat]
  by_cases h : n ≤ xs.length
  · rw [Nat.min_eq_left h]
    exact List.take_of_length_le (by rw [List.length_drop]; exact Nat.le_refl _)
  · rw [Nat.min_eq_right (by omega), List.drop_of_length_le (Nat.le_refl _), List.drop_of_length_le (by omega), List.take_nil]
theorem cut_mid {n k : Nat} (h : n ≤ k) : cut xs (some (n : Int)) (some (k : Int)) = (xs.drop n).take (k - n) := by
  unfold cut
  rw [HT.sIx_nat, HT.sIx_nat]
  by_cases h1 : n ≤ xs.length
  · rw [Nat.min_eq_left h1]
    by_cases h2 : k ≤ xs.length
    · rw [Nat.min_eq_left h2]
    · rw [Nat.min_eq_right (by omega), List.take_of_length_le (by rw [List.length_drop]; exact Nat.le_refl _), List.take_of_length_le (by rw [List.length_drop]; omega)]
  · rw [show min n xs.length = xs.length by omega, List.drop_of_length_le (Nat.le_refl _), List.drop_of_length_le (show xs.length ≤ n by omega), List.take_nil, List.take_nil]
def EvO (to : TO) (σ : St) (F H : Hp) (o : Option Int) : Prop :=
  ∀ F1 H1, Gr M0 F H F1 H1 → ∀ Q : Option Int → Hp → Prop, (∀ F2 H2, Gr M0 F1 H1 F2 H2 → Q o H2) → to σ H1 Q
theorem eo_none : EvO tNoPart σ F H none := fun F1 H1 g Q q => q F1 H1 (.refl g.fh)
theorem eo_some (h : Ev rInt te σ F H i) : EvO (tPart te) σ F H (some i) := fun F1 H1 g Q q => h F1 H1 g _ fun v F2 H2 g2 r => ⟨i, r, q F2 H2 g2⟩
theorem ev_slL {tl th : TO} {lo hi : Option Int} (h : Ev (rLst R) te σ F H xs) (h1 : EvO tl σ F H lo) (h2 : EvO th σ F H hi) (m : Mn R := by infer_instance) : Ev (rLst R) (tSl (rSlL K) te tl th) σ F H (cut xs lo hi) := fun F1 H1 g1 Q q =>
  h F1 H1 g1 _ fun v F2 H2 g2 ⟨a, vs, e, hl, p⟩ => h1 F2 H2 (g1.trans g2) _ fun F3 H3 g3 => h2 F3 H3 ((g1.trans g2).trans g3) _ fun F4 H4 g4 =>
    ⟨a, vs, e, SqL.of (g4.fh _ _ (g4.ff _ _ (g3.ff _ _ hl))), fun D hD => by
      have g5 : Gr M0 F4 H4 (upd F4 D (.lst (cutV vs lo hi))) (upd H4 D (.lst (cutV vs lo hi))) := .new g4.fh hD
      exact q _ _ _ (((g2.trans g3).trans g4).trans g5) ⟨D, _, rfl, upd_same, Paired.up (((g3.ff).trans g4.ff).trans g5.ff) (cut_paired p)⟩⟩
abbrev rLenS (K : PySem.W.Frag) : List V → Hp → VK → Prop := fun xs H Q => ∃ p ys, xs = [.ref p] ∧ (SqL K H p ys ∨ SqT K H p ys) ∧ Q (.int ys.length) H
theorem ev_lenL (ha : Ev (rLst R) ta σ F H xs) : Ev rInt (tCB (rLenS K) (tCons ta tNil)) σ F H (xs.length : Int) := fun F1 H1 g1 Q q =>
  ha F1 H1 g1 _ fun v F2 H2 g2 ⟨a, vs, e, hl, p⟩ => ⟨a, vs, by rw [e], .inl (SqL.of (g2.fh _ _ hl)), q _ F2 H2 g2 (by rw [← p.length]; rfl)⟩
theorem ev_lenT (ha : Ev (rTup R) ta σ F H xs) : Ev rInt (tCB (rLenS K) (tCons ta tNil)) σ F H (xs.length : Int) := fun F1 H1 g1 Q q =>
  ha F1 H1 g1 _ fun v F2 H2 g2 ⟨a, vs, e, hl, p⟩ => ⟨a, vs, by rw [e], .inr (SqT.of (g2.fh _ _ hl)), q _ F2 H2 g2 (by rw [← p.length]; rfl)⟩
theorem ev_lenM {a : Addr} {vs : List V} (ha : Ev rRef ta σ F H a) (hl : H a = some (.lst vs)) : Ev rInt (tCB (rLenS K) (tCons ta tNil)) σ F H (vs.length : Int) := fun F1 H1 g1 Q q =>
  ha F1 H1 g1 _ fun v F2 H2 g2 e => ⟨a, vs, by rw [show v = _ from e], .inl (SqL.of (g2.hx _ _ (g1.hx _ _ hl))), q _ F2 H2 g2 rfl⟩
theorem ev_lenStr {s : Str} (hz : s.length ≤ sizeLine) (ha : Ev rStr ta σ F H s) : Ev rInt (tCB (fun xs H Q => ∃ z, xs = [.str z] ∧ z.length ≤ sizeLine ∧ Q (.int z.length) H) (tCons ta tNil)) σ F H (s.length : Int) := fun F1 H1 g1 Q q =>
  ha F1 H1 g1 _ fun v F2 H2 g2 e => ⟨s, by rw [show v = _ from e], hz, q _ F2 H2 g2 rfl⟩

/-! ### displays, list(..), tuple(..) -/
def EvL {α : Type} (R : Rp α) (ta : TA) (σ : St) (F H : Hp) (xs : List α) : Prop := EvA ta σ F H (fun F vs => Paired (R F) vs xs)
theorem el_nil : EvL R tNil σ F H [] := fun F1 H1 g Q q => q _ F1 H1 (.refl g.fh) .nil
theorem el_cons {tr : TA} (h : Ev R te σ F H x) (hr : EvL R tr σ F H xs) (m : Mn R := by infer_instance) : EvL R (tCons te tr) σ F H (x :: xs) := fun F1 H1 g Q q =>
  h F1 H1 g _ fun v F2 H2 g2 r => hr F2 H2 (g.trans g2) _ fun ws F3 H3 g3 p => q _ F3 H3 (g2.trans g3) (.cons (m.mono g3.ff r) p)
theorem ev_lst {t : TA} (h : EvL R t σ F H xs) (hz : xs.length ≤ sizeLine) (m : Mn R := by infer_instance) : Ev (rLst R) (tLst t) σ F H xs := fun F1 H1 g Q q =>
  h F1 H1 g _ fun vs F2 H2 g2 p => ⟨by rw [p.length]; exact hz, fun D hD => q _ _ _ (g2.trans (.new g2.fh hD)) ⟨D, vs, rfl, upd_same, Paired.up (Gr.new (M := M0) g2.fh hD).ff p⟩⟩
theorem ev_tup {t : TA} (h : EvL R t σ F H xs) (hz : xs.length ≤ sizeLine) (m : Mn R := by infer_instance) : Ev (rTup R) (tTup t) σ F H xs := fun F1 H1 g Q q =>
  h F1 H1 g _ fun vs F2 H2 g2 p => ⟨by rw [p.length]; exact hz, fun D hD => q _ _ _ (g2.trans (.new g2.fh hD)) ⟨D, vs, rfl, upd_same, Paired.up (Gr.new (M := M0) g2.fh hD).ff p⟩⟩
theorem ev_pr (ha : Ev R ta σ F H x) (hb : Ev S tb σ F H y) (m : Mn R := by infer_instance) (n : Mn S := by infer_instance) : Ev (rPr R S) (tTup (tCons ta (tCons tb tNil))) σ F H (x, y) := fun F1 H1 g Q q =>
  ha F1 H1 g _ fun v F2 H2 g2 r => hb F2 H2 (g.trans g2) _ fun w F3 H3 g3 r2 => ⟨by show 2 ≤ sizeLine; decide, fun D hD => by
    have g4 : Gr M0 F3 H3 (upd F3 D (.tup [v, w])) (upd H3 D (.tup [v, w])) := .new g3.fh hD
    exact q _ _ _ ((g2.trans g3).trans g4) ⟨D, v, w, rfl, upd_same, m.mono (g3.ff.trans g4.ff) r, n.mono g4.ff r2⟩⟩
abbrev rListS (K : PySem.W.Frag) : List V → Hp → VK → Prop := fun xs H Q => ∃ p ys, xs = [.ref p] ∧ (SqL K H p ys ∨ SqT K H p ys) ∧ ∀ l, H l = none → Q (.ref l) (upd H l (.lst ys))
abbrev rTupS (K : PySem.W.Frag) : List V → Hp → VK → Prop := fun xs H Q => ∃ p ys, xs = [.ref p] ∧ ((SqL K H p ys ∧ ∀ l, H l = none → Q (.ref l) (upd H l (.tup ys))) ∨ (SqT K H p ys ∧ Q (.ref p) H))
theorem ev_listL (ha : Ev (rLst R) ta σ F H xs) (m : Mn R := by infer_instance) : Ev (rLst R) (tCB (rListS K) (tCons ta tNil)) σ F H xs := fun F1 H1 g1 Q q =>
  ha F1 H1 g1 _ fun v F2 H2 g2 ⟨a, vs, e, hl, p⟩ => ⟨a, vs, by rw [e], .inl (SqL.of (g2.fh _ _ hl)), fun D hD => q _ _ _ (g2.trans (.new g2.fh hD)) ⟨D, vs, rfl, upd_same, Paired.up (Gr.new (M := M0) g2.fh hD).ff p⟩⟩
theorem ev_listT (ha : Ev (rTup R) ta σ F H xs) (m : Mn R := by infer_instance) : Ev (rLst R) (tCB (rListS K) (tCons ta tNil)) σ F H xs := fun F1 H1 g1 Q q =>
  ha F1 H1 g1 _ fun v F2 H2 g2 ⟨a, vs, e, hl, p⟩ => ⟨a, vs, by rw [e], .inr (SqT.of (g2.fh _ _ hl)), fun D hD => q _ _ _ (g2.trans (.new g2.fh hD)) ⟨D, vs, rfl, upd_same, Paired.up (Gr.new (M := M0) g2.fh hD).ff p⟩⟩
theorem ev_tupL (ha : Ev (rLst R) ta σ F H xs) (m : Mn R := by infer_instance) : Ev (rTup R) (tCB (rTupS K) (tCons ta tNil)) σ F H xs := fun F1 H1 g1 Q q =>
  ha F1 H1 g1 _ fun v F2 H2 g2 ⟨a, vs, e, hl, p⟩ => ⟨a, vs, by rw [e], .inl ⟨SqL.of (g2.fh _ _ hl), fun D hD => q _ _ _ (g2.trans (.new g2.fh hD)) ⟨D, vs, rfl, upd_same, Paired.up (Gr.new (M := M0) g2.fh hD).ff p⟩⟩⟩
theorem rgV_paired {H : Hp} (n : Nat) : Paired (rNat H) (rgV 0 (n : Int)) (List.range n) := by
  unfold rgV
  rw [show ((n : Int) - 0).toNat = n by omega]
  have : ∀ l : List Nat, Paired (rNat H) (l.map fun i => V.int (0 + (i : Nat))) l := fun l => by
    induction l with
    | nil => exact .nil
    | cons a l ih => exact .cons (show V.int (0 + (a : Int)) = V.int (a : Int) by rw [Int.zero_add]) ih
  exact this _
theorem ev_tupRg {n : Nat} (ha : Ev rInt ta σ F H (n : Int)) (hn : n ≤ 1000000) : Ev (rTup rNat) (tTupRg (tRg1 ta)) σ F H (List.range n) := fun F1 H1 g1 Q q =>
  ha F1 H1 g1 _ fun v F2 H2 g2 e => ⟨n, e, .of_le (by omega) (by omega) (by omega) (by omega), fun D hD => q _ _ _ (g2.trans (.new g2.fh hD)) ⟨D, _, rfl, upd_same, rgV_paired n⟩⟩
theorem ev_lstRg {n : Nat} (ha : Ev rInt ta σ F H (n : Int)) (hn : n ≤ 1000000) : Ev (rLst rNat) (tLstRg (tRg1 ta)) σ F H (List.range n) := fun F1 H1 g1 Q q =>
  ha F1 H1 g1 _ fun v F2 H2 g2 e => ⟨n, e, .of_le (by omega) (by omega) (by omega) (by omega), fun D hD => q _ _ _ (g2.trans (.new g2.fh hD)) ⟨D, _, rfl, upd_same, rgV_paired n⟩⟩
theorem ev_all {bs : List Bool} (ha : Ev (rLst rBl) ta σ F H bs) : Ev rBl (tCB (rAll K) (tCons ta tNil)) σ F H (bs.all id) := fun F1 H1 g1 Q q =>
  ha F1 H1 g1 _ fun v F2 H2 g2 ⟨a, vs, e, hl, p⟩ => ⟨a, bs, by rw [e], by rw [← bls_paired p]; exact SqL.of (g2.fh _ _ hl), q _ F2 H2 g2 rfl⟩
theorem ev_any {bs : List Bool} (ha : Ev (rLst rBl) ta σ F H bs) : Ev rBl (tCB (rAny K) (tCons ta tNil)) σ F H (bs.any id) := fun F1 H1 g1 Q q =>
  ha F1 H1 g1 _ fun v F2 H2 g2 ⟨a, vs, e, hl, p⟩ => ⟨a, bs, by rw [e], by rw [← bls_paired p]; exact SqL.of (g2.fh _ _ hl), q _ F2 H2 g2 rfl⟩
theorem ev_sum {ns : List Int} (ha : Ev (rLst rInt) ta σ F H ns) : Ev rInt (tCB (rSum K) (tCons ta tNil)) σ F H ns.sum := fun F1 H1 g1 Q q =>
  ha F1 H1 g1 _ fun v F2 H2 g2 ⟨a, vs, e, hl, p⟩ => ⟨a, ns, by rw [e], by rw [← ints_paired p]; exact SqL.of (g2.fh _ _ hl), q _ F2 H2 g2 rfl⟩
theorem ev_cat {xs ys : List α} (ha : Ev (rLst R) ta σ F H xs) (hb : Ev (rLst R) tb σ F H ys) (hz : xs.length + ys.length ≤ sizeLine) (m : Mn R := by infer_instance) : Ev (rLst R) (tOp rCat ta tb) σ F H (xs ++ ys) := fun F1 H1 g1 Q q =>
  ha F1 H1 g1 _ fun v F2 H2 g2 ⟨a, vs, e, hl, p⟩ => hb F2 H2 (g1.trans g2) _ fun w F3 H3 g3 ⟨b, ws, e2, hl2, p2⟩ =>
    ⟨a, b, vs, ws, e, e2, g3.fh _ _ (g3.ff _ _ hl), g3.fh _ _ hl2, by rw [p.length, p2.length]; exact hz, fun D hD => by
      have g4 : Gr M0 F3 H3 (upd F3 D (.lst (vs ++ ws))) (upd H3 D (.lst (vs ++ ws))) := .new g3.fh hD
      exact q _ _ _ ((g2.trans g3).trans g4) ⟨D, _, rfl, upd_same, Paired.app (Paired.up (g3.ff.trans g4.ff) p) (Paired.up g4.ff p2)⟩⟩
theorem ev_rep1 {n : Int} (ha : Ev (rLst R) ta σ F H [x]) (hb : Ev rInt tb σ F H n) (hn : n ≤ 1000000) (h0 : -1000000 ≤ n) (m : Mn R := by infer_instance) : Ev (rLst R) (tOp rRep ta tb) σ F H (List.replicate n.toNat x) := fun F1 H1 g1 Q q =>
  ha F1 H1 g1 _ fun v F2 H2 g2 ⟨a, vs, e, hl, p⟩ => hb F2 H2 (g1.trans g2) _ fun w F3 H3 g3 e2 => by
    cases p with
    | cons r p =>
      cases p
      rename_i y
      refine ⟨a, n, [y], e, e2, g3.fh _ _ (g3.ff _ _ hl), by omega, by omega, by show 1 * n.toNat ≤ sizeLine; rw [sizeLine_eq]; omega, fun D hD => ?_⟩
      have g4 : ∀ o, Gr M0 F3 H3 (upd F3 D o) (upd H3 D o) := fun o => .new g3.fh hD
      refine q _ _ _ ((g2.trans g3).trans (g4 _)) ⟨D, _, rfl, upd_same, ?_⟩
      have r' := fun o => m.mono (g3.ff.trans (g4 o).ff) r
      generalize e5 : HO.lst _ = o5
      have r5 := r' o5
      have : ∀ k, Paired (R (upd F3 D o5)) (List.replicate k [y]).flatten (List.replicate k x) := fun k => by
        induction k with
        | zero => exact .nil
        | succ k ih => exact .cons r5 ih
      exact this _
end
end El

set_option Elab.async false
set_option linter.all false
set_option maxRecDepth 100000
set_option maxHeartbeats 2000000
namespace El
open PySem PySem.Spec L2
variable [LawTabs]
section
variable {K : PySem.W.Frag} {σ : St} {F H F' H' : Hp} {ta tb tc te tl : TE} {tt t u : TT} {α β γ δ ε : Type} {R : Rp α} {S : Rp β} {T : Rp γ} {x : α} {y : β} {z : γ} {xs : List α} {ys : List β} {i j : Int} {D : Ends} {ts tu : TS}

/-! ### statements -/
theorem x_set {i : Nat} (e : ExT F H) (h : Ev R te σ F H x) (k : ∀ v F' H', Gr M0 F H F' H' → R F' v x → D.nx (σ.set i (some v)) H') : tAsg te (gName i) D σ H := h F H (.refl e) _ fun v F' H' g r => k v F' H' g r
theorem x_ret (e : ExT F H) (h : Ev R te σ F H x) (k : ∀ v F' H', Gr M0 F H F' H' → R F' v x → D.rt v H') : tRet te D σ H := h F H (.refl e) _ k
theorem x_drop (e : ExT F H) (h : Ev R te σ F H x) (k : ∀ F' H', Gr M0 F H F' H' → D.nx σ H') : tDrop te D σ H := h F H (.refl e) _ fun v F' H' g _ => k F' H' g
theorem x_if {b : Bool} (e : ExT F H) (h : EvT t σ F H b) (k1 : b = true → ∀ F' H', Gr M0 F H F' H' → ts D σ H') (k2 : b = false → ∀ F' H', Gr M0 F H F' H' → tu D σ H') : tIfS t ts tu D σ H := h F H (.refl e) _ fun F' H' g => by
  cases b with
  | true => exact k1 rfl F' H' g
  | false => exact k2 rfl F' H' g
/-- name += int -/
theorem x_aug {i : Nat} {a b : Int} {f : Int → Int → Int} (e : ExT F H) (hx : σ[i]? = some (some (.int a))) (h : Ev rInt te σ F H b) (k : ∀ F' H', Gr M0 F H F' H' → D.nx (σ.set i (some (.int (f a b)))) H') : tAug i te (ipI f) D σ H :=
  ⟨.int a, hx, h F H (.refl e) _ fun v F' H' g r => ⟨a, b, rfl, r, k F' H' g⟩⟩
/-- a new list that may change: x = [] -/
theorem x_nil {i : Nat} (e : ExT F H) (k : ∀ l, H l = none → D.nx (σ.set i (some (.ref l))) (upd H l (.lst []))) : tAsg (tLst tNil) (gName i) D σ H := ⟨Nat.zero_le _, fun l hl => k l hl⟩
/-- a new list that may change, by what it evaluates to -/
theorem x_setM {i : Nat} (e : ExT F H) (h : Ev (rLst R) te σ F H xs) (k : ∀ v F' H', Gr M0 F H F' H' → rLst R F' v xs → D.nx (σ.set i (some v)) H') : tAsg te (gName i) D σ H := x_set e h k
/-- xs.append(e) -/
theorem x_app {l : Addr} {vs : List V} (e : ExT F H) (ha : Ev rRef ta σ F H l) (hl : H l = some (.lst vs)) (h : Ev R te σ F H x) (hz : vs.length < sizeLine)
    (k : ∀ v F' H', Gr M0 F H F' H' → R F' v x → H' l = some (.lst vs) → D.nx σ (upd H' l (.lst (vs ++ [v])))) : tDrop (tBM K "list" rAppend ta (tCons te tNil)) D σ H :=
  ha F H (.refl e) _ fun v F1 H1 g1 r1 => by
    cases (show v = _ from r1)
    exact ⟨.inl ⟨rfl, vs, SqL.of (g1.hx _ _ hl)⟩, h F1 H1 g1 _ fun w F2 H2 g2 r2 => ⟨l, vs, w, rfl, rfl, g2.hx _ _ (g1.hx _ _ hl), hz, k w F2 H2 (g1.trans g2) r2 (g2.hx _ _ (g1.hx _ _ hl))⟩⟩
/-- xs.extend(e) -/
theorem x_ext {l : Addr} {vs : List V} {zs : List α} (e : ExT F H) (ha : Ev rRef ta σ F H l) (hl : H l = some (.lst vs)) (h : Ev (rLst R) te σ F H zs) (hz : vs.length + zs.length ≤ sizeLine)
    (k : ∀ ws F' H', Gr M0 F H F' H' → Paired (R F') ws zs → H' l = some (.lst vs) → D.nx σ (upd H' l (.lst (vs ++ ws)))) : tDrop (tBM K "list" rExtend ta (tCons te tNil)) D σ H :=
  ha F H (.refl e) _ fun v F1 H1 g1 r1 => by
    cases (show v = _ from r1)
    exact ⟨.inl ⟨rfl, vs, SqL.of (g1.hx _ _ hl)⟩, h F1 H1 g1 _ fun w F2 H2 g2 ⟨b, ws, eb, hb, p⟩ => by
      subst eb
      exact ⟨l, b, vs, ws, rfl, rfl, g2.hx _ _ (g1.hx _ _ hl), g2.fh _ _ hb, by rw [p.length]; exact hz, k ws F2 H2 (g1.trans g2) p (g2.hx _ _ (g1.hx _ _ hl))⟩⟩
/-- xs[i] = e -/
theorem x_setI {l : Addr} {vs : List V} {n : Nat} (e : ExT F H) (h : Ev R te σ F H x) (ha : Ev rRef ta σ F H l) (hi : Ev rInt tb σ F H (n : Int)) (hl : H l = some (.lst vs)) (hn : n < vs.length)
    (k : ∀ v F' H', Gr M0 F H F' H' → R F' v x → H' l = some (.lst vs) → D.nx σ (upd H' l (.lst (vs.set n v)))) (m : Mn R := by infer_instance) : tAsg te (gSub ta tb rSetL) D σ H :=
  h F H (.refl e) _ fun v F1 H1 g1 r1 => ha F1 H1 g1 _ fun w F2 H2 g2 r2 => hi F2 H2 (g1.trans g2) _ fun w3 F3 H3 g3 r3 => by
    refine ⟨l, vs, (n : Int), n, r2, r3, g3.hx _ _ (g2.hx _ _ (g1.hx _ _ hl)), ?_, k v F3 H3 ((g1.trans g2).trans g3) (m.mono (g2.ff.trans g3.ff) r1) (g3.hx _ _ (g2.hx _ _ (g1.hx _ _ hl)))⟩
    unfold ixN
    rw [if_pos (by omega), if_pos (by omega)]
    rfl

/-! ### loops -/
/-- for x in a frozen list -/
theorem x_forL {n : Nat} (e : ExT F H) (h : Ev (rLst R) tl σ F H xs) (Pv : Nat → St → Hp → Hp → Prop) (h0 : ∀ F1 H1, Gr M0 F H F1 H1 → Pv 0 σ F1 H1)
    (hs : ∀ F1, Ex F F1 → ∀ i x v σ' F' H', xs[i]? = some x → Ex F1 F' → ExT F' H' → R F' v x → Pv i σ' F' H' →
      ts { D with nx := fun σ2 H2 => ∃ F2, Ex F1 F2 ∧ ExT F2 H2 ∧ Pv (i + 1) σ2 F2 H2, ct := fun σ2 H2 => ∃ F2, Ex F1 F2 ∧ ExT F2 H2 ∧ Pv (i + 1) σ2 F2 H2, bk := D.nx } (σ'.set n (some v)) H')
    (hd : ∀ σ' F' H', Ex F F' → ExT F' H' → Pv xs.length σ' F' H' → D.nx σ' H') (m : Mn R := by infer_instance) : tFor (iList K tl) (gName n) ts D σ H := by
  refine h F H (.refl e) _ fun v F1 H1 g1 ⟨a, vs, ea, hl, p⟩ => ⟨a, ea, ⟨vs, SqL.of (g1.fh _ _ hl)⟩, ?_⟩
  refine for_list (xs := vs) (fun i σ' H' => ∃ F', Ex F1 F' ∧ ExT F' H' ∧ Pv i σ' F' H') ⟨F1, Ex.refl _, g1.fh, h0 F1 H1 g1⟩ (fun i σ' H' _ ⟨F', e1, e2, _⟩ => SqL.of (e2 _ _ (e1 _ _ hl))) ?_ ?_
  · rintro i w σ' H' hi ⟨F', e1, e2, pv⟩
    obtain ⟨x, hx, rx⟩ := Paired.getL p hi
    exact hs F1 g1.ff i x w σ' F' H' hx e1 e2 (m.mono e1 rx) pv
  · rintro σ' H' ⟨F', e1, e2, pv⟩
    rw [p.length] at pv
    exact hd σ' F' H' (g1.ff.trans e1) e2 pv
theorem x_forT {n : Nat} (e : ExT F H) (h : Ev (rTup R) tl σ F H xs) (Pv : Nat → St → Hp → Hp → Prop) (h0 : ∀ F1 H1, Gr M0 F H F1 H1 → Pv 0 σ F1 H1)
    (hs : ∀ F1, Ex F F1 → ∀ i x v σ' F' H', xs[i]? = some x → Ex F1 F' → ExT F' H' → R F' v x → Pv i σ' F' H' →
      ts { D with nx := fun σ2 H2 => ∃ F2, Ex F1 F2 ∧ ExT F2 H2 ∧ Pv (i + 1) σ2 F2 H2, ct := fun σ2 H2 => ∃ F2, Ex F1 F2 ∧ ExT F2 H2 ∧ Pv (i + 1) σ2 F2 H2, bk := D.nx } (σ'.set n (some v)) H')
    (hd : ∀ σ' F' H', Ex F F' → ExT F' H' → Pv xs.length σ' F' H' → D.nx σ' H') (m : Mn R := by infer_instance) : tFor (iTup K tl) (gName n) ts D σ H := by
  refine h F H (.refl e) _ fun v F1 H1 g1 ⟨a, vs, ea, hl, p⟩ => ⟨a, ea, ⟨vs, SqT.of (g1.fh _ _ hl)⟩, ?_⟩
  refine for_tup (xs := vs) (fun i σ' H' => ∃ F', Ex F1 F' ∧ ExT F' H' ∧ Pv i σ' F' H') ⟨F1, Ex.refl _, g1.fh, h0 F1 H1 g1⟩ (fun i σ' H' _ ⟨F', e1, e2, _⟩ => SqT.of (e2 _ _ (e1 _ _ hl))) ?_ ?_
  · rintro i w σ' H' hi ⟨F', e1, e2, pv⟩
    obtain ⟨x, hx, rx⟩ := Paired.getL p hi
    exact hs F1 g1.ff i x w σ' F' H' hx e1 e2 (m.mono e1 rx) pv
  · rintro σ' H' ⟨F', e1, e2, pv⟩
    rw [p.length] at pv
    exact hd σ' F' H' (g1.ff.trans e1) e2 pv
/-- for k in range(n) -/
theorem x_forR {j : Nat} {n : Nat} {ta : TE} (e : ExT F H) (h : Ev rInt ta σ F H (n : Int)) (hn : n ≤ 1000000000) (Pv : Nat → St → Hp → Hp → Prop) (h0 : ∀ F1 H1, Gr M0 F H F1 H1 → Pv 0 σ F1 H1)
    (hs : ∀ F1, Ex F F1 → ∀ i σ' F' H', i < n → Ex F1 F' → ExT F' H' → Pv i σ' F' H' →
      ts { D with nx := fun σ2 H2 => ∃ F2, Ex F1 F2 ∧ ExT F2 H2 ∧ Pv (i + 1) σ2 F2 H2, ct := fun σ2 H2 => ∃ F2, Ex F1 F2 ∧ ExT F2 H2 ∧ Pv (i + 1) σ2 F2 H2, bk := D.nx } (σ'.set j (some (.int (i : Int)))) H')
    (hd : ∀ σ' F' H', Ex F F' → ExT F' H' → Pv n σ' F' H' → D.nx σ' H') : tFor (iRng1 (tCons ta tNil)) (gName j) ts D σ H := by
  refine h F H (.refl e) _ fun v F1 H1 g1 ea => ⟨(n : Int), by rw [show v = _ from ea], by omega, by omega, ?_⟩
  rw [Int.toNat_natCast]
  refine for_range (lo := 0) (n := n) (fun i σ' H' => ∃ F', Ex F1 F' ∧ ExT F' H' ∧ Pv i σ' F' H') ⟨F1, Ex.refl _, g1.fh, h0 F1 H1 g1⟩ ?_ ?_
  · rintro i σ' H' hi ⟨F', e1, e2, pv⟩
    have e0 : (0 : Int) + (i : Int) = (i : Int) := Int.zero_add _
    show ts _ (σ'.set j (some (.int ((0 : Int) + (i : Int))))) H'
    rw [e0]
    exact hs F1 g1.ff i σ' F' H' hi e1 e2 pv
  · rintro σ' H' ⟨F', e1, e2, pv⟩
    exact hd σ' F' H' (g1.ff.trans e1) e2 pv
/-- for k in range(a, b) -/
theorem x_forR2 {j : Nat} {a b : Nat} {ta tb : TE} (e : ExT F H) (h : Ev rInt ta σ F H (a : Int)) (h2 : Ev rInt tb σ F H (b : Int)) (hn : b ≤ 1000000000) (ha : a ≤ 1000000000) (Pv : Nat → St → Hp → Hp → Prop) (h0 : ∀ F1 H1, Gr M0 F H F1 H1 → Pv 0 σ F1 H1)
    (hs : ∀ F1, Ex F F1 → ∀ i σ' F' H', a + i < b → Ex F1 F' → ExT F' H' → Pv i σ' F' H' →
      ts { D with nx := fun σ2 H2 => ∃ F2, Ex F1 F2 ∧ ExT F2 H2 ∧ Pv (i + 1) σ2 F2 H2, ct := fun σ2 H2 => ∃ F2, Ex F1 F2 ∧ ExT F2 H2 ∧ Pv (i + 1) σ2 F2 H2, bk := D.nx } (σ'.set j (some (.int ((a + i : Nat) : Int)))) H')
    (hd : ∀ σ' F' H', Ex F F' → ExT F' H' → Pv (b - a) σ' F' H' → D.nx σ' H') : tFor (iRng2 (tCons ta (tCons tb tNil))) (gName j) ts D σ H := by
  refine h F H (.refl e) _ fun v F1 H1 g1 ea => h2 F1 H1 g1 _ fun w F2 H2 g2 eb => ⟨(a : Int), (b : Int), by rw [show v = _ from ea, show w = _ from eb], ⟨by omega, by omega, by omega, by omega⟩, ?_⟩
  rw [show ((b : Int) - (a : Int)).toNat = b - a by omega]
  refine for_range (lo := (a : Int)) (n := b - a) (fun i σ' H' => ∃ F', Ex F2 F' ∧ ExT F' H' ∧ Pv i σ' F' H') ⟨F2, Ex.refl _, g2.fh, h0 F2 H2 (g1.trans g2)⟩ ?_ ?_
  · rintro i σ' H' hi ⟨F', e1, e2, pv⟩
    have e0 : ((a : Int) + (i : Int)) = ((a + i : Nat) : Int) := by omega
    show ts _ (σ'.set j (some (.int ((a : Int) + (i : Int))))) H'
    rw [e0]
    exact hs F2 (g1.ff.trans g2.ff) i σ' F' H' (by omega) e1 e2 pv
  · rintro σ' H' ⟨F', e1, e2, pv⟩
    exact hd σ' F' H' ((g1.ff.trans g2.ff).trans e1) e2 pv
/-- while: a test that is pure, a measure -/
theorem x_while {tc : TT} (e : ExT F H) (Pv : Nat → St → Hp → Hp → Prop) (m0 : Nat) (h0 : Pv m0 σ F H) (b : Nat → St → Hp → Hp → Bool) (hc : ∀ m σ' F' H', Ex F F' → ExT F' H' → Pv m σ' F' H' → EvT tc σ' F' H' (b m σ' F' H'))
    (st : ∀ m σ' F' H' F2 H2, Gr M0 F' H' F2 H2 → Pv m σ' F' H' → Pv m σ' F2 H2)
    (hs : ∀ m σ' F' H' F2 H2, Ex F F' → Gr M0 F' H' F2 H2 → b m σ' F' H' = true → Pv m σ' F' H' → Pv m σ' F2 H2 → 
      ts { D with nx := fun σ2 H2 => ∃ F2 m', Ex F F2 ∧ ExT F2 H2 ∧ m' < m ∧ Pv m' σ2 F2 H2, ct := fun σ2 H2 => ∃ F2 m', Ex F F2 ∧ ExT F2 H2 ∧ m' < m ∧ Pv m' σ2 F2 H2, bk := D.nx } σ' H2)
    (hd : ∀ m σ' F' H' F2 H2, Ex F F' → Gr M0 F' H' F2 H2 → b m σ' F' H' = false → Pv m σ' F' H' → Pv m σ' F2 H2 → D.nx σ' H2) : tWhile tc ts D σ H := by
  refine ⟨fun m σ' H' => ∃ F', Ex F F' ∧ ExT F' H' ∧ Pv m σ' F' H', ⟨m0, F, Ex.refl _, e, h0⟩, ?_⟩
  rintro m σ' H' ⟨F', e1, e2, pv⟩
  refine hc m σ' F' H' e1 e2 pv F' H' (.refl e2) _ fun F2 H2 g => ?_
  cases q : b m σ' F' H' with
  | true => exact ⟨_, fun σ2 H3 ⟨F3, m', a1, a2, a3, a4⟩ => ⟨m', a3, F3, a1, a2, a4⟩, hs m σ' F' H' F2 H2 e1 g q pv (st _ _ _ _ _ _ g pv)⟩
  | false => exact hd m σ' F' H' F2 H2 e1 g q pv (st _ _ _ _ _ _ g pv)

/-! ### comprehensions -/
/-- [elt for x in list], of each item an answer -/
theorem ev_lc {n : Nat} {vs : List Nat} (h : Ev (rLst R) tl σ F H xs) (hlen : ys.length = xs.length) (hz : xs.length ≤ 1000000) (hw : ∀ v, wipe ((wipe σ vs).set n (some v)) vs = wipe σ vs)
    (he : ∀ (i : Nat) x y v F1 H1, xs[i]? = some x → ys[i]? = some y → Gr M0 F H F1 H1 → R F1 v x → Ev S te ((wipe σ vs).set n (some v)) F1 H1 y) (m : Mn R := by infer_instance) (m' : Mn S := by infer_instance) : Ev (rLst S) (tLc (iList K tl) (gName n) tYes te vs) σ F H ys := by
  intro F1 H1 g1 Q q
  refine h F1 H1 g1 _ fun v F2 H2 g2 ⟨a, ws, ea, hl, p⟩ => ⟨a, ea, ⟨ws, SqL.of (g2.fh _ _ hl)⟩, fun D hD => ?_⟩
  refine lc_list (xs := ws) (fun i H' => ∃ F' us, Gr M0 F2 H2 F' H' ∧ F' D = none ∧ H' D = some (.lst us) ∧ Paired (S F') us (ys.take i)) ⟨F2, [], .loc g2.fh hD, g2.fh.free hD, upd_same, .nil⟩ (fun i H' _ ⟨F', us, g, _⟩ => SqL.of (g.fh _ _ (g.ff _ _ hl))) ?_ ?_
  · rintro i w H' hi ⟨F', us, g, fD, hD', pu⟩
    obtain ⟨x, hx, rx⟩ := Paired.getL p hi
    have hil : i < ys.length := by rw [hlen]; exact (List.getElem?_eq_some_iff.mp hx).1
    have hy : ys[i]? = some ys[i] := List.getElem?_eq_getElem hil
    refine ⟨hw w, ?_⟩
    refine he i x ys[i] w F' H' hx hy ((g1.trans g2).trans g) (m.mono g.ff rx) F' H' (.refl g.fh) _ fun u F3 H3 g3 r3 => ?_
    refine ⟨us, g3.hx _ _ hD', ?_, F3, us ++ [u], (g.trans g3).set' (g3.nn hD' fD) (.inl hD), g3.nn hD' fD, upd_same, ?_⟩
    · rw [pu.length, List.length_take, sizeLine_eq]
      omega
    · rw [List.take_add_one, hy]
      exact (Paired.up g3.ff pu).snoc r3
  · rintro H' ⟨F', us, g, fD, hD', pu⟩
    rw [p.length, ← hlen, List.take_length] at pu
    exact q _ _ _ (g2.trans (g.frz hD' (g2.fh.free hD) (.inl hD))) ⟨D, us, rfl, upd_same, Paired.up (g.fh.frz hD' fD) pu⟩
theorem ev_lcT {n : Nat} {vs : List Nat} (h : Ev (rTup R) tl σ F H xs) (hlen : ys.length = xs.length) (hz : xs.length ≤ 1000000) (hw : ∀ v, wipe ((wipe σ vs).set n (some v)) vs = wipe σ vs)
    (he : ∀ (i : Nat) x y v F1 H1, xs[i]? = some x → ys[i]? = some y → Gr M0 F H F1 H1 → R F1 v x → Ev S te ((wipe σ vs).set n (some v)) F1 H1 y) (m : Mn R := by infer_instance) (m' : Mn S := by infer_instance) : Ev (rLst S) (tLc (iTup K tl) (gName n) tYes te vs) σ F H ys := by
  intro F1 H1 g1 Q q
  refine h F1 H1 g1 _ fun v F2 H2 g2 ⟨a, ws, ea, hl, p⟩ => ⟨a, ea, ⟨ws, SqT.of (g2.fh _ _ hl)⟩, fun D hD => ?_⟩
  refine lc_tup (xs := ws) (fun i H' => ∃ F' us, Gr M0 F2 H2 F' H' ∧ F' D = none ∧ H' D = some (.lst us) ∧ Paired (S F') us (ys.take i)) ⟨F2, [], .loc g2.fh hD, g2.fh.free hD, upd_same, .nil⟩ (fun i H' _ ⟨F', us, g, _⟩ => SqT.of (g.fh _ _ (g.ff _ _ hl))) ?_ ?_
  · rintro i w H' hi ⟨F', us, g, fD, hD', pu⟩
    obtain ⟨x, hx, rx⟩ := Paired.getL p hi
    have hil : i < ys.length := by rw [hlen]; exact (List.getElem?_eq_some_iff.mp hx).1
    have hy : ys[i]? = some ys[i] := List.getElem?_eq_getElem hil
    refine ⟨hw w, ?_⟩
    refine he i x ys[i] w F' H' hx hy ((g1.trans g2).trans g) (m.mono g.ff rx) F' H' (.refl g.fh) _ fun u F3 H3 g3 r3 => ?_
    refine ⟨us, g3.hx _ _ hD', ?_, F3, us ++ [u], (g.trans g3).set' (g3.nn hD' fD) (.inl hD), g3.nn hD' fD, upd_same, ?_⟩
    · rw [pu.length, List.length_take, sizeLine_eq]
      omega
    · rw [List.take_add_one, hy]
      exact (Paired.up g3.ff pu).snoc r3
  · rintro H' ⟨F', us, g, fD, hD', pu⟩
    rw [p.length, ← hlen, List.take_length] at pu
    exact q _ _ _ (g2.trans (g.frz hD' (g2.fh.free hD) (.inl hD))) ⟨D, us, rfl, upd_same, Paired.up (g.fh.frz hD' fD) pu⟩
/-- [elt for k in range(n)] -/
theorem ev_lcR {j n : Nat} {vs : List Nat} {ta : TE} (h : Ev rInt ta σ F H (n : Int)) (hlen : ys.length = n) (hz : n ≤ 1000000) (hw : ∀ v, wipe ((wipe σ vs).set j (some v)) vs = wipe σ vs)
    (he : ∀ i y F1 H1, i < n → ys[i]? = some y → Gr M0 F H F1 H1 → Ev S te ((wipe σ vs).set j (some (.int (i : Int)))) F1 H1 y) (m' : Mn S := by infer_instance) : Ev (rLst S) (tLc (iRng1 (tCons ta tNil)) (gName j) tYes te vs) σ F H ys := by
  intro F1 H1 g1 Q q
  refine h F1 H1 g1 _ fun v F2 H2 g2 ea => ⟨(n : Int), by rw [show v = _ from ea], by omega, by omega, fun D hD => ?_⟩
  rw [Int.toNat_natCast]
  refine lc_range (lo := 0) (n := n) (fun i H' => ∃ F' us, Gr M0 F2 H2 F' H' ∧ F' D = none ∧ H' D = some (.lst us) ∧ Paired (S F') us (ys.take i)) ⟨F2, [], .loc g2.fh hD, g2.fh.free hD, upd_same, .nil⟩ ?_ ?_
  · rintro i H' hi ⟨F', us, g, fD, hD', pu⟩
    have hil : i < ys.length := by rw [hlen]; exact hi
    have hy : ys[i]? = some ys[i] := List.getElem?_eq_getElem hil
    have e0 : (0 : Int) + (i : Int) = (i : Int) := Int.zero_add _
    rw [e0]
    refine ⟨hw _, ?_⟩
    refine he i ys[i] F' H' hi hy ((g1.trans g2).trans g) F' H' (.refl g.fh) _ fun u F3 H3 g3 r3 => ?_
    refine ⟨us, g3.hx _ _ hD', ?_, F3, us ++ [u], (g.trans g3).set' (g3.nn hD' fD) (.inl hD), g3.nn hD' fD, upd_same, ?_⟩
    · rw [pu.length, List.length_take, sizeLine_eq]
      omega
    · rw [List.take_add_one, hy]
      exact (Paired.up g3.ff pu).snoc r3
  · rintro H' ⟨F', us, g, fD, hD', pu⟩
    rw [← hlen, List.take_length] at pu
    exact q _ _ _ (g2.trans (g.frz hD' (g2.fh.free hD) (.inl hD))) ⟨D, us, rfl, upd_same, Paired.up (g.fh.frz hD' fD) pu⟩
end

/-! ### promises of pure defs -/
def Sp1 {α β : Type} (R : Rp α) (Pre : α → Prop) (S : Rp β) (f : α → β) : Sp := fun vs H Q _ => ∃ F v x, vs = [v] ∧ ExT F H ∧ R F v x ∧ Pre x ∧ ∀ w F' H', Gr M0 F H F' H' → S F' w (f x) → Q w H'
def Sp2 {α β γ : Type} (R : Rp α) (S : Rp β) (Pre : α → β → Prop) (T : Rp γ) (f : α → β → γ) : Sp := fun vs H Q _ => ∃ F v w x y, vs = [v, w] ∧ ExT F H ∧ R F v x ∧ S F w y ∧ Pre x y ∧ ∀ z F' H', Gr M0 F H F' H' → T F' z (f x y) → Q z H'
def Sp3 {α β γ δ : Type} (R : Rp α) (S : Rp β) (T : Rp γ) (Pre : α → β → γ → Prop) (U : Rp δ) (f : α → β → γ → δ) : Sp := fun vs H Q _ => ∃ F v w u x y z, vs = [v, w, u] ∧ ExT F H ∧ R F v x ∧ S F w y ∧ T F u z ∧ Pre x y z ∧ ∀ r F' H', Gr M0 F H F' H' → U F' r (f x y z) → Q r H'
def Sp4 {α β γ δ ε : Type} (R : Rp α) (S : Rp β) (T : Rp γ) (U : Rp δ) (Pre : α → β → γ → δ → Prop) (W : Rp ε) (f : α → β → γ → δ → ε) : Sp := fun vs H Q _ => ∃ F v w u u' x y z z', vs = [v, w, u, u'] ∧ ExT F H ∧ R F v x ∧ S F w y ∧ T F u z ∧ U F u' z' ∧ Pre x y z z' ∧ ∀ r F' H', Gr M0 F H F' H' → W F' r (f x y z z') → Q r H'
section
variable {K : PySem.W.Frag} {σ : St} {F H F' H' : Hp} {ta tb tc td te tl : TE} {α β γ δ ε : Type} {R : Rp α} {S : Rp β} {T : Rp γ} {U : Rp δ} {W : Rp ε} {x : α} {y : β} {z : γ} {u : δ} {E : XK}
theorem ev_call1 {Pre : α → Prop} {f : α → β} (ha : Ev R ta σ F H x) (p : Pre x) : Ev S (tCall (Sp1 R Pre S f) [] E (tCons ta tNil)) σ F H (f x) := fun F1 H1 g1 Q q =>
  ha F1 H1 g1 _ fun v F2 H2 g2 r => ⟨F2, v, x, rfl, g2.fh, r, p, fun w F' H' g k => q w F' H' (g2.trans g) k⟩
theorem ev_call2 {Pre : α → β → Prop} {f : α → β → γ} (ha : Ev R ta σ F H x) (hb : Ev S tb σ F H y) (p : Pre x y) (m : Mn R := by infer_instance) : Ev T (tCall (Sp2 R S Pre T f) [] E (tCons ta (tCons tb tNil))) σ F H (f x y) := fun F1 H1 g1 Q q =>
  ha F1 H1 g1 _ fun v F2 H2 g2 r => hb F2 H2 (g1.trans g2) _ fun w F3 H3 g3 r3 => ⟨F3, v, w, x, y, rfl, g3.fh, m.mono g3.ff r, r3, p, fun w F' H' g k => q w F' H' ((g2.trans g3).trans g) k⟩
theorem ev_call3 {Pre : α → β → γ → Prop} {f : α → β → γ → δ} (ha : Ev R ta σ F H x) (hb : Ev S tb σ F H y) (hc : Ev T tc σ F H z) (p : Pre x y z) (m : Mn R := by infer_instance) (n : Mn S := by infer_instance) : Ev U (tCall (Sp3 R S T Pre U f) [] E (tCons ta (tCons tb (tCons tc tNil)))) σ F H (f x y z) := fun F1 H1 g1 Q q =>
  ha F1 H1 g1 _ fun v F2 H2 g2 r => hb F2 H2 (g1.trans g2) _ fun w F3 H3 g3 r3 => hc F3 H3 ((g1.trans g2).trans g3) _ fun w' F4 H4 g4 r4 =>
    ⟨F4, v, w, w', x, y, z, rfl, g4.fh, m.mono (g3.ff.trans g4.ff) r, n.mono g4.ff r3, r4, p, fun w F' H' g k => q w F' H' (((g2.trans g3).trans g4).trans g) k⟩
theorem ev_call4 {Pre : α → β → γ → δ → Prop} {f : α → β → γ → δ → ε} (ha : Ev R ta σ F H x) (hb : Ev S tb σ F H y) (hc : Ev T tc σ F H z) (hd : Ev U td σ F H u) (p : Pre x y z u) (m : Mn R := by infer_instance) (n : Mn S := by infer_instance) (o : Mn T := by infer_instance) :
    Ev W (tCall (Sp4 R S T U Pre W f) [] E (tCons ta (tCons tb (tCons tc (tCons td tNil))))) σ F H (f x y z u) := fun F1 H1 g1 Q q =>
  ha F1 H1 g1 _ fun v F2 H2 g2 r => hb F2 H2 (g1.trans g2) _ fun w F3 H3 g3 r3 => hc F3 H3 ((g1.trans g2).trans g3) _ fun w' F4 H4 g4 r4 => hd F4 H4 (((g1.trans g2).trans g3).trans g4) _ fun w'' F5 H5 g5 r5 =>
    ⟨F5, v, w, w', w'', x, y, z, u, rfl, g5.fh, m.mono ((g3.ff.trans g4.ff).trans g5.ff) r, n.mono (g4.ff.trans g5.ff) r3, o.mono g5.ff r4, r5, p, fun w F' H' g k => q w F' H' ((((g2.trans g3).trans g4).trans g5).trans g) k⟩
/-- instances: what stands at the address -/
class IsI {α : Type} (R : Rp α) (C : Addr) (m : Str) : Prop where
  at_ : ∀ {F v x}, R F v x → ∃ a dx fs, v = .ref a ∧ F a = some (.ins C dx fs) ∧ fs.lookup m = none
theorem ev_meth0 {C : Addr} {m : Str} {Pre : α → Prop} {f : α → β} [c : IsI R C m] (ha : Ev R ta σ F H x) (p : Pre x) : Ev S (tMeth C m (Sp1 R Pre S f) [] E ta tNil) σ F H (f x) := fun F1 H1 g1 Q q =>
  ha F1 H1 g1 _ fun v F2 H2 g2 r => by
    obtain ⟨a, dx, fs, e, h, l⟩ := c.at_ r
    exact ⟨a, dx, fs, e, g2.fh _ _ h, l, F2, v, x, rfl, g2.fh, r, p, fun w F' H' g k => q w F' H' (g2.trans g) k⟩
theorem ev_meth1 {C : Addr} {m : Str} {Pre : α → β → Prop} {f : α → β → γ} [c : IsI R C m] (ha : Ev R ta σ F H x) (hb : Ev S tb σ F H y) (p : Pre x y) (m' : Mn R := by infer_instance) : Ev T (tMeth C m (Sp2 R S Pre T f) [] E ta (tCons tb tNil)) σ F H (f x y) := fun F1 H1 g1 Q q =>
  ha F1 H1 g1 _ fun v F2 H2 g2 r => by
    obtain ⟨a, dx, fs, e, h, l⟩ := c.at_ r
    exact ⟨a, dx, fs, e, g2.fh _ _ h, l, hb F2 H2 (g1.trans g2) _ fun w F3 H3 g3 r3 => ⟨F3, v, w, x, y, rfl, g3.fh, m'.mono g3.ff r, r3, p, fun w F' H' g k => q w F' H' ((g2.trans g3).trans g) k⟩⟩
theorem ev_meth2 {C : Addr} {m : Str} {Pre : α → β → γ → Prop} {f : α → β → γ → δ} [c : IsI R C m] (ha : Ev R ta σ F H x) (hb : Ev S tb σ F H y) (hc : Ev T tc σ F H z) (p : Pre x y z) (m' : Mn R := by infer_instance) (n' : Mn S := by infer_instance) : Ev U (tMeth C m (Sp3 R S T Pre U f) [] E ta (tCons tb (tCons tc tNil))) σ F H (f x y z) := fun F1 H1 g1 Q q =>
  ha F1 H1 g1 _ fun v F2 H2 g2 r => by
    obtain ⟨a, dx, fs, e, h, l⟩ := c.at_ r
    exact ⟨a, dx, fs, e, g2.fh _ _ h, l, hb F2 H2 (g1.trans g2) _ fun w F3 H3 g3 r3 => hc F3 H3 ((g1.trans g2).trans g3) _ fun w' F4 H4 g4 r4 => ⟨F4, v, w, w', x, y, z, rfl, g4.fh, m'.mono (g3.ff.trans g4.ff) r, n'.mono g4.ff r3, r4, p, fun w F' H' g k => q w F' H' (((g2.trans g3).trans g4).trans g) k⟩⟩
/-- o.f -/
class IsF {α : Type} {β : outParam Type} (R : Rp α) (K : PySem.W.Frag) (f : Str) (S : outParam (Rp β)) (p : outParam (α → β)) : Prop where
  at_ : ∀ {F v x}, R F v x → ∃ a C dx fs w, v = .ref a ∧ F a = some (.ins C dx fs) ∧ Cls K C ∧ NoAttr K C f ∧ fs.lookup f = some w ∧ S F w (p x)
theorem ev_fld {f : Str} {p : α → β} (ha : Ev R ta σ F H x) (c : IsF R K f S p := by infer_instance) : Ev S (tFld K ta f) σ F H (p x) := fun F1 H1 g1 Q q =>
  ha F1 H1 g1 _ fun v F2 H2 g2 r => by
    obtain ⟨a, C, dx, fs, w, e, h, c1, c2, l, s⟩ := c.at_ r
    exact ⟨a, C, dx, fs, w, e, g2.fh _ _ h, c1, c2, l, q w F2 H2 g2 s⟩

/-! ### isinstance -/
theorem ev_isi {T : String} {b : Bool} (ha : Ev R ta σ F H x) (ht : ∀ F H v, ExT F H → R F v x → ∃ t, TyX K H v t ∧ PySem.W.kitOne K t (.type T) = some b) : Ev rBl (tCB (rIsi K) (tCons ta (tCons (tC (.ty T)) tNil))) σ F H b := fun F1 H1 g1 Q q =>
  ha F1 H1 g1 _ fun v F2 H2 g2 r => by
    obtain ⟨t, h1, h2⟩ := ht F2 H2 v g2.fh r
    exact ⟨v, .ty T, t, .type T, b, rfl, .ty T, h1, h2, q _ F2 H2 g2 rfl⟩
theorem kit_same {t : Value} : PySem.W.kitOne K t t = some true := if_pos (beq_self_eq_true _)
theorem ev_isIntInt {i : Int} (ha : Ev rInt ta σ F H i) : Ev rBl (tCB (rIsi K) (tCons ta (tCons (tC (.ty "int")) tNil))) σ F H true := ev_isi ha fun F H v _ r => ⟨_, .base (by cases (show v = _ from r); exact .int i), kit_same⟩
theorem ev_isIntBool {i : Int} (ha : Ev rInt ta σ F H i) : Ev rBl (tCB (rIsi K) (tCons ta (tCons (tC (.ty "bool")) tNil))) σ F H false := ev_isi ha fun F H v _ r => ⟨_, .base (by cases (show v = _ from r); exact .int i), kit_ty (by decide +kernel)⟩
theorem ev_isTup {xs : List α} (ha : Ev (rTup R) ta σ F H xs) : Ev rBl (tCB (rIsi K) (tCons ta (tCons (tC (.ty "tuple")) tNil))) σ F H true := ev_isi ha fun F H v e r => ⟨_, .base (by obtain ⟨a, vs, rfl, h, _⟩ := r; exact .tup (e _ _ h)), kit_same⟩
theorem ev_isLst {xs : List α} (ha : Ev (rLst R) ta σ F H xs) : Ev rBl (tCB (rIsi K) (tCons ta (tCons (tC (.ty "list")) tNil))) σ F H true := ev_isi ha fun F H v e r => ⟨_, .base (by obtain ⟨a, vs, rfl, h, _⟩ := r; exact .lst (e _ _ h)), kit_same⟩
theorem ev_isStr {s : Str} (ha : Ev rStr ta σ F H s) : Ev rBl (tCB (rIsi K) (tCons ta (tCons (tC (.ty "str")) tNil))) σ F H true := ev_isi ha fun F H v _ r => ⟨_, .base (by cases (show v = _ from r); exact .str s), kit_same⟩
end
end El
namespace El
open PySem PySem.Spec L2
variable [LawTabs]
theorem rpm {α : Type} {R : Rp α} {H H' : Hp} {v : V} {x : α} (e : Ex H H') (r : R H v x) (m : Mn R) : R H' v x := m.mono e r
theorem sn {D : Ends} {σ : St} {H : Hp} (h : D.nx σ H) : tNext D σ H := h
theorem sq {t u : TS} {D : Ends} {σ : St} {H : Hp} (h : t { D with nx := u D } σ H) : tSeq t u D σ H := h
theorem x_fld {K : PySem.W.Frag} {σ : St} {F H : Hp} {ta tv : TE} {α : Type} {R : Rp α} {x : α} {D : Ends} {f : Str} {a C dx : Addr} {fs : List (Str × V)} (e : ExT F H) (h : Ev R tv σ F H x) (ha : Ev rRef ta σ F H a) (ho : H a = some (.ins C dx fs)) (c : Cls K C) (n : NoAttr K C f) (l : fs.length < 1000)
    (k : ∀ v F' H', Gr M0 F H F' H' → R F' v x → H' a = some (.ins C dx fs) → D.nx σ (upd H' a (.ins C dx (putF f v fs)))) (m : Mn R := by infer_instance) : sFld K ta tv f D σ H :=
  h F H (.refl e) _ fun v F1 H1 g1 r1 => ha F1 H1 g1 _ fun w F2 H2 g2 r2 => ⟨a, C, dx, fs, r2, g2.hx _ _ (g1.hx _ _ ho), c, n, l, k v F2 H2 (g1.trans g2) (m.mono g2.ff r1) (g2.hx _ _ (g1.hx _ _ ho))⟩
end El

set_option Elab.async false
set_option linter.all false
set_option maxRecDepth 100000
set_option maxHeartbeats 2000000
namespace El
open PySem PySem.Spec L2
variable [LawTabs]
/-! ### len of an instance with its own __len__ -/
def rLenOwn (C : Addr) (sp : Sp) (E : XK) : List V → Hp → VK → Prop := fun xs H Q => ∃ a dx fs, xs = [V.ref a] ∧ H a = some (.ins C dx fs) ∧ sp [.ref a] H (fun v H' => ∃ n : Int, v = .int n ∧ 0 ≤ n ∧ n < 2 ^ 63 ∧ Q v H') E
theorem call_lenOwn {X : Cx} {CX : CXT} {n : Nat} {C f : Addr} {fd : FuncData} {ps : List Str} {sp : Sp} {E : XK} (F : FnOk X.prog X.w X.K X.mg X.base CX n f fd ps sp) (hr : Room (n + 1) X.A) (hs : PySem.W.findIn X.K (.ref C) "__len__" = some (some (.ref f))) (hf : PySem.W.isFn X.K (.ref f) = true)
    (hb : Binds X.K fd ps []) (hx : Passes CX X E) : CallR X (.builtin "len") (rLenOwn C sp E) := by
  intro pins s σ H xs us Q I r h
  obtain ⟨a, dx, fs, rfl, ha, hsp⟩ := h
  cases r with
  | cons r1 r2 =>
    cases r2
    cases r1
    obtain ⟨mA, J, _⟩ := ins_get I.hok ha
    obtain ⟨od, J, _⟩ := J.look
    obtain ⟨m, hF⟩ := I.fr
    refine PySem.W.len_K hF I.ok.mod.kin J hs hf ?_
    have e0 : Env0 X.prog X.w X.K X.mg X.base X.A.in1 X.stack s H := by
      have e := I.env0
      exact ⟨e.frames, e.mod, e.bs, e.bsz, e.funs, e.frf, e.hok, e.bare⟩
    have hl := F.len _ _ _ _ hsp
    have r2 : Vals [V.ref a] [Value.ref a] := .cons rfl .nil
    refine wpAny_call (codeAny_mono (F.run X.A.in1 X.stack s H ⟨[.ref a], []⟩ [.ref a] [.ref a] _ E hr.in1 e0 (by
      have := hb s [.ref a] I.kIn (by simpa using hl)
      simpa using this) r2 hsp) fun r s' hq => ?_)
    cases r with
    | error e => exact hx pins σ H s e s' I hq
    | ok fl =>
      cases fl with
      | ret w =>
        obtain ⟨z, H', I', rz, k, ez, h0, h1, q⟩ := I.after hq
        subst ez
        obtain ⟨t, rfl⟩ := rz
        exact ⟨⟨h0, h1⟩, .int k, H', I'.tok _, ⟨_, rfl⟩, q⟩
      | next => exact False.elim hq
      | brk => exact False.elim hq
      | cont => exact False.elim hq
section
variable {K : PySem.W.Frag} {σ : St} {F H : Hp} {ta : TE} {α : Type} {R : Rp α} {x : α} {E : XK}
theorem ev_lenOwn {C : Addr} {f : α → Nat} [c : IsI R C "__len__"] (ha : Ev R ta σ F H x) (hz : f x < 2 ^ 62) : Ev rInt (tCB (rLenOwn C (Sp1 R (fun _ => True) rNat f) E) (tCons ta tNil)) σ F H (f x : Int) := fun F1 H1 g1 Q q =>
  ha F1 H1 g1 _ fun v F2 H2 g2 r => by
    obtain ⟨a, dx, fs, e, h, l⟩ := c.at_ r
    subst e
    exact ⟨a, dx, fs, rfl, g2.fh _ _ h, F2, _, x, rfl, g2.fh, r, True.intro, fun w F' H' g k => ⟨(f x : Int), k, by omega, by omega, q w F' H' (g2.trans g) k⟩⟩
end
/-! ### len(set(xs)) of ints -/
def tLenSetJ (K : PySem.W.Frag) (ta : TE) : TE := fun σ H Q => ta σ H fun x H1 => ∃ (l : Addr) (ns : List Int), x = .ref l ∧ SqT K H1 l (ns.map V.int) ∧ ns.length ≤ 4000 ∧ ∀ out : List Int, out.Nodup → (∀ k, k ∈ out ↔ k ∈ ns) → Q (.int (out.length : Nat)) H1
open PyProof.Rows in
theorem pe_lenSetJ {X : Cx} {a : Expr} {ta : TE} {p p2 q pos : Pos} (hg : Gl X "len") (hm : X.mg "len" = none) (hg2 : Gl X "set") (hm2 : X.mg "set" = none) (ha : PE X a ta) (hc : X.calm = true := by rfl)
    (na : starEach [a] X.env = (false, eval a X.env) :: starEach [] X.env := by rfl) : PE X (.Call (.Name "len" p) [.Call (.Name "set" p2) [a] [] q] [] pos) (tLenSetJ X.K ta) := by
  refine ⟨fun pins s σ H Q I h => ?_⟩
  refine Call_ (ld_blt I hg hm boot_len ?_)
  refine PyProof.Rows.callWith_builtin1 (PyProof.Rows.args_cons ?_ rfl) rfl rfl
  refine Call_ (ld_blt I hg2 hm2 boot_set ?_)
  refine PyProof.Rows.callWith_type1 (PyProof.Rows.args_cons (thn (ha.run pins s σ H _ I h) fun v s1 ⟨x, H1, I1, r1, q1⟩ => PyProof.Rows.args_nil ?_) na) na rfl
  obtain ⟨l, ns, rfl, hq, hl, q1⟩ := q1
  cases r1
  obtain ⟨its, r, pt, hz⟩ := I1.tuple hq
  have hi : PyProof.Rows.IntsAre its.toArray.toList ns := ints_of_vals r
  refine call_set_tupI ns (I1.ok.hd hc) (show s1.heap.IsTuple l its.toArray from pt) hi (by unfold scanBound; omega) fun h' tk c R1 hcn k => ?_
  refine PyProof.Rows.args_nil ?_
  obtain ⟨o, es, ep, t, ho, hex, hdt, g, nd, hm3, hb, hf, hn, hr, hl2⟩ := R1
  have I2 : Inv X pins σ H1 { s1 with heap := h', toks := tk } := I1.kept fun b o e => k b o e
  have hlen : (es.toList.map keyOf).length = es.size := by rw [List.length_map, Array.length_toList]
  refine call_len_set ho hex hdt hf (by omega) ⟨.int es.size, H1, I2.tok _, ⟨_, rfl⟩, ?_⟩
  have := q1 (es.toList.map keyOf) nd fun j => by rw [← hm3 j, decide_eq_true_eq]
  rw [hlen] at this
  exact this
/-- the things of a list, each once -/
def uniq (ns : List Nat) : List Nat := ns.foldr (fun n l => if n ∈ l then l else n :: l) []
theorem mem_uniq {k : Nat} : ∀ {ns : List Nat}, k ∈ uniq ns ↔ k ∈ ns
  | [] => Iff.rfl
  | n :: ns => by
    show k ∈ (if n ∈ uniq ns then uniq ns else n :: uniq ns) ↔ _
    split
    · rename_i h
      rw [mem_uniq, List.mem_cons]
      exact ⟨.inr, fun z => z.elim (fun e => by rw [e]; exact mem_uniq.mp h) id⟩
    · rw [List.mem_cons, List.mem_cons, mem_uniq]
theorem nodup_uniq : ∀ ns : List Nat, (uniq ns).Nodup
  | [] => List.nodup_nil
  | n :: ns => by
    show (if n ∈ uniq ns then uniq ns else n :: uniq ns).Nodup
    split
    · exact nodup_uniq ns
    · rename_i h
      exact List.nodup_cons.mpr ⟨h, nodup_uniq ns⟩
theorem nodup_len_of_mem {α : Type} [DecidableEq α] {as bs : List α} (ha : as.Nodup) (hb : bs.Nodup) (h : ∀ k, k ∈ as ↔ k ∈ bs) : as.length = bs.length := by
  have p : as.Perm bs := (List.perm_ext_iff_of_nodup ha hb).mpr h
  exact p.length_eq
section
variable {K : PySem.W.Frag} {σ : St} {F H : Hp} {ta : TE}
theorem ev_lenSet {ns : List Nat} (ha : Ev (rTup rNat) ta σ F H ns) (hz : ns.length ≤ 4000) : Ev rInt (tLenSetJ K ta) σ F H ((uniq ns).length : Int) := fun F1 H1 g1 Q q =>
  ha F1 H1 g1 _ fun v F2 H2 g2 ⟨a, vs, e, hl, p⟩ => ⟨a, ns.map fun n : Nat => (n : Int), e, by rw [← nats_paired p]; exact SqT.of (g2.fh _ _ hl), by rw [List.length_map]; exact hz, fun out nd hm => by
    have : out.length = ((uniq ns).map fun n : Nat => (n : Int)).length := by
      refine nodup_len_of_mem nd ?_ fun k => ?_
      · refine List.Pairwise.map _ ?_ (nodup_uniq ns)
        intro a b h e
        exact h (by omega)
      · rw [hm, List.mem_map, List.mem_map]
        exact ⟨fun ⟨n, h, e⟩ => ⟨n, mem_uniq.mpr h, e⟩, fun ⟨n, h, e⟩ => ⟨n, mem_uniq.mp h, e⟩⟩
    rw [this, List.length_map]
    exact q _ F2 H2 g2 rfl⟩
end
/-! ### the laws' own source of draws -/
/-- a source at a: so many more draws may be made of it -/
def Src (H : Hp) (a : Addr) (N : Nat) : Prop := ∃ n c k : Int, H a = some (.lst [.int n, .int c, .int k]) ∧ 0 ≤ n ∧ 0 ≤ c ∧ c < 2147483648 ∧ 0 ≤ k ∧ k + N ≤ 1099511627776
theorem Src.le {H : Hp} {a : Addr} {N M : Nat} (h : Src H a N) (l : M ≤ N) : Src H a M := by
  obtain ⟨n, c, k, h1, h2, h3, h4, h5, h6⟩ := h
  exact ⟨n, c, k, h1, h2, h3, h4, h5, by omega⟩
theorem Src.hn {H : Hp} {a : Addr} {N : Nat} (h : Src H a N) : H a ≠ none := by
  obtain ⟨n, c, k, h1, _⟩ := h
  rw [h1]
  exact fun z => nomatch z
theorem Src.ex {H H' : Hp} {a : Addr} {N : Nat} (h : Src H a N) (e : H' a = H a) : Src H' a N := by
  unfold Src
  rw [e]
  exact h
theorem Src.gr {F H F' H' : Hp} {a : Addr} {N : Nat} (h : Src H a N) (g : Gr M0 F H F' H') : Src H' a N := by
  obtain ⟨n, c, k, h1, h2⟩ := h
  exact ⟨n, c, k, g.hx _ _ h1, h2⟩
theorem Src.upd {H : Hp} {a b : Addr} {o : HO} {N : Nat} (h : Src H a N) (e : a ≠ b) : Src (upd H b o) a N := h.ex (upd_ne e)
end El

set_option Elab.async false
set_option linter.all false
set_option maxRecDepth 100000
set_option maxHeartbeats 2000000
namespace El
open PySem PySem.Spec L2
variable [LawTabs]
section
variable {K : PySem.W.Frag} {σ : St} {F H F' H' : Hp} {ta tb tc te tl : TE} {tt t u : TT} {α β γ δ ε : Type} {R : Rp α} {S : Rp β} {xs : List α} {n : Nat} {vs : List Nat}
theorem ev_lcm (f : α → β) (h : Ev (rLst R) tl σ F H xs) (hz : xs.length ≤ 1000000) (hw : ∀ v, wipe ((wipe σ vs).set n (some v)) vs = wipe σ vs)
    (he : ∀ (i : Nat) x v F1 H1, xs[i]? = some x → Gr M0 F H F1 H1 → R F1 v x → Ev S te ((wipe σ vs).set n (some v)) F1 H1 (f x)) (m : Mn R := by infer_instance) (m' : Mn S := by infer_instance) : Ev (rLst S) (tLc (iList K tl) (gName n) tYes te vs) σ F H (xs.map f) :=
  ev_lc h (List.length_map _) hz hw fun i x y v F1 H1 hx hy g r => by
    rw [List.getElem?_map, hx] at hy
    cases hy
    exact he i x v F1 H1 hx g r
theorem ev_lcTm (f : α → β) (h : Ev (rTup R) tl σ F H xs) (hz : xs.length ≤ 1000000) (hw : ∀ v, wipe ((wipe σ vs).set n (some v)) vs = wipe σ vs)
    (he : ∀ (i : Nat) x v F1 H1, xs[i]? = some x → Gr M0 F H F1 H1 → R F1 v x → Ev S te ((wipe σ vs).set n (some v)) F1 H1 (f x)) (m : Mn R := by infer_instance) (m' : Mn S := by infer_instance) : Ev (rLst S) (tLc (iTup K tl) (gName n) tYes te vs) σ F H (xs.map f) :=
  ev_lcT h (List.length_map _) hz hw fun i x y v F1 H1 hx hy g r => by
    rw [List.getElem?_map, hx] at hy
    cases hy
    exact he i x v F1 H1 hx g r
theorem ev_lcRm (f : Nat → β) {j : Nat} {ta : TE} (h : Ev rInt ta σ F H (n : Int)) (hz : n ≤ 1000000) (hw : ∀ v, wipe ((wipe σ vs).set j (some v)) vs = wipe σ vs)
    (he : ∀ i F1 H1, i < n → Gr M0 F H F1 H1 → Ev S te ((wipe σ vs).set j (some (.int (i : Int)))) F1 H1 (f i)) (m' : Mn S := by infer_instance) : Ev (rLst S) (tLc (iRng1 (tCons ta tNil)) (gName j) tYes te vs) σ F H ((List.range n).map f) :=
  ev_lcR h (by rw [List.length_map, List.length_range]) hz hw fun i y F1 H1 hi hy g => by
    rw [List.getElem?_map, List.getElem?_range hi] at hy
    cases hy
    exact he i F1 H1 hi g
theorem mem_of_at {xs : List α} {i : Nat} {x : α} (h : xs[i]? = some x) : x ∈ xs := List.mem_of_getElem? h
end

/-! ### turns -/
structure Tn where
  many : Nat
  maps : List (List Nat)
  h0 : 1 ≤ many
  h1 : many ≤ 32
  h2 : 1 ≤ maps.length
  h3 : maps.length ≤ 200
  h4 : ∀ m ∈ maps, m.length = many ∧ ∀ x ∈ m, x < many
def rTurns (C : Addr) : Rp Tn := fun H v T => ∃ a dx l, v = .ref a ∧ H a = some (.ins C dx [("many", .int (T.many : Int)), ("maps", l)]) ∧ rLst (rTup rNat) H l T.maps
instance {C : Addr} : Mn (rTurns C) := ⟨fun e ⟨a, dx, l, h1, h2, h3⟩ => ⟨a, dx, l, h1, e _ _ h2, Mn.mono e h3⟩⟩
instance {C : Addr} : NotN (rTurns C) := ⟨fun ⟨_, _, _, h, _⟩ e => by rw [h] at e; cases e⟩
instance {C : Addr} : IsI (rTurns C) C "__len__" := ⟨fun ⟨a, dx, l, h1, h2, h3⟩ => ⟨a, dx, _, h1, h2, rfl⟩⟩
theorem fld_many {K : PySem.W.Frag} {C : Addr} (c : Cls K C) (n : NoAttr K C "many") : IsF (rTurns C) K "many" rNat Tn.many := ⟨fun ⟨a, dx, l, h1, h2, h3⟩ => ⟨a, C, dx, _, _, h1, h2, c, n, rfl, rfl⟩⟩
theorem fld_maps {K : PySem.W.Frag} {C : Addr} (c : Cls K C) (n : NoAttr K C "maps") : IsF (rTurns C) K "maps" (rLst (rTup rNat)) Tn.maps := ⟨fun ⟨a, dx, l, h1, h2, h3⟩ => ⟨a, C, dx, _, _, h1, h2, c, n, rfl, h3⟩⟩
/-- what C(..) makes of turns: the promise of __init__ -/
def SpTurns (C : Addr) : Sp := fun vs H Q _ => ∃ (F : Hp) (a dx : Addr) (l : V) (T : Tn), vs = [.ref a, .int (T.many : Int), l] ∧ ExT F H ∧ F a = none ∧ H a = some (.ins C dx []) ∧ rLst (rTup rNat) F l T.maps ∧
  ∀ F' H', Gr (M1 a) F H F' H' → rTurns C F' (.ref a) T → Q .non H'
theorem ev_Turns {σ : St} {F H : Hp} {ta tb : TE} {C : Addr} {T : Tn} {E : XK} (ha : Ev rInt ta σ F H (T.many : Int)) (hb : Ev (rLst (rTup rNat)) tb σ F H T.maps) : Ev (rTurns C) (tMake C (SpTurns C) [] E (tCons ta (tCons tb tNil))) σ F H T := fun F1 H1 g1 Q q =>
  ha F1 H1 g1 _ fun v F2 H2 g2 r => hb F2 H2 (g1.trans g2) _ fun w F3 H3 g3 r3 => fun x dx nx ndx nex => by
    cases (show v = _ from r)
    have h1 : (upd H3 dx (.own x)) x = none := by rw [upd_ne nex.symm]; exact nx
    have e1 : ExT F3 (upd (upd H3 dx (.own x)) x (.ins C dx [])) := g3.fh.make nx ndx nex.symm
    exact ⟨F3, x, dx, w, T, rfl, e1, g3.fh.free nx, upd_same, r3, fun F' H' g k => ⟨rfl, q _ F' H' ((g2.trans g3).trans (.made (M := M0) nx ndx nex.symm g)) k⟩⟩
/-- mirrors -/
def idMap (n : Nat) : List Nat := List.range n
def thenM (a b : List Nat) : List Nat := a.map fun x => b.getD x 0
def metB (a : List Nat) : Bool := decide ((uniq a).length = 1)
def mapFrom (T : Tn) (m : List Nat) (w : List Nat) : List Nat := w.foldl (fun m s => thenM m (T.maps.getD s [])) m
def mapW (T : Tn) (w : List Nat) : List Nat := mapFrom T (idMap T.many) w
/-- a map of the turns' places -/
def IsMap (n : Nat) (m : List Nat) : Prop := m.length = n ∧ ∀ x ∈ m, x < n
theorem isMap_id (n : Nat) : IsMap n (idMap n) := ⟨List.length_range, fun x h => List.mem_range.mp h⟩
theorem isMap_then {n : Nat} {a b : List Nat} (ha : IsMap n a) (hb : IsMap n b) : IsMap n (thenM a b) := by
  refine ⟨by unfold thenM; rw [List.length_map]; exact ha.1, fun x h => ?_⟩
  obtain ⟨y, hy, rfl⟩ := List.mem_map.mp h
  have hl : y < b.length := by rw [hb.1]; exact ha.2 y hy
  rw [List.getD_eq_getElem?_getD, List.getElem?_eq_getElem hl]
  exact hb.2 _ (List.getElem_mem hl)
theorem Tn.isMap (T : Tn) {s : Nat} (h : s < T.maps.length) : IsMap T.many (T.maps.getD s []) := by
  rw [List.getD_eq_getElem?_getD, List.getElem?_eq_getElem h]
  exact T.h4 _ (List.getElem_mem h)
theorem isMap_from {T : Tn} : ∀ {w : List Nat} {m : List Nat}, IsMap T.many m → (∀ s ∈ w, s < T.maps.length) → IsMap T.many (mapFrom T m w)
  | [], _, h, _ => h
  | s :: w, m, h, hs => isMap_from (w := w) (m := thenM m (T.maps.getD s [])) (isMap_then h (T.isMap (hs s List.mem_cons_self))) fun s' h' => hs s' (List.mem_cons_of_mem _ h')
theorem isMap_mapW {T : Tn} {w : List Nat} (hs : ∀ s ∈ w, s < T.maps.length) : IsMap T.many (mapW T w) := isMap_from (isMap_id _) hs
theorem getD_at {α : Type} {xs : List α} {i : Nat} {d : α} (h : i < xs.length) : xs[i]? = some (xs.getD i d) := by
  rw [List.getD_eq_getElem?_getD, List.getElem?_eq_getElem h]
  rfl
end El

set_option Elab.async false
set_option linter.all false
set_option maxRecDepth 100000
set_option maxHeartbeats 2000000
namespace El
open PySem PySem.Spec L2
variable [LawTabs]
section
variable {X : Cx} (K : PySem.W.Frag)
theorem kfld {e : Expr} {f : Str} {pos : Pos} {ta : TE} (he : PE X e ta) (hb : attributeBase e f X.env (eval e X.env) = eval e X.env) (hK : X.K = K := by rfl) : PE X (.Attribute e f pos) (tFld K ta f) := by
  subst hK
  exact pe_fld he hb
theorem kset {o value : Expr} {f : Str} {pos pos' : Pos} {ta tv : TE} (ha : PE X o ta) (hv : PE X value tv) (hs : swapsWith value (some (.Attribute o f pos')) pos.line X.env = pure false) (hK : X.K = K := by rfl) : PS X (.Assign [.Attribute o f pos'] value pos) (sFld K ta tv f) := by
  subst hK
  exact ps_fld ha hv hs
theorem kaug {o value : Expr} {f : Str} {pos tpos : Pos} {ta tv : TE} {op : Operator} {rd : V → V → Hp → VK → Prop} (ha : PE X o ta) (hv : PE X value tv) (hop : InOp X op rd) (hK : X.K = K := by rfl) : PS X (.AugAssign (.Attribute o f tpos) op value pos) (sFldAug K ta tv rd f) := by
  subst hK
  exact ps_fldaug ha hv hop
theorem klist {tg l : Expr} {tl : TE} (hl : PE X l tl) (hK : X.K = K := by rfl) : PI X tg l (iList K tl) := by
  subst hK
  exact pi_list hl
theorem ktup {tg l : Expr} {tl : TE} (hl : PE X l tl) (hK : X.K = K := by rfl) : PI X tg l (iTup K tl) := by
  subst hK
  exact pi_tup hl
theorem kptup {es : List Expr} {k : Nat} {t : TGs} {n : Nat} {pos : Pos} (hc : X.calm = true) (h : PGs X es t)
    (hn : (assignEach es X.env).length = n := by rfl) (hst : (assignEach es X.env).findIdx? (·.1) = none := by rfl) (hK : X.K = K := by rfl) : PG X (.Tuple es k pos) (gTup K n t) := by
  subst hK
  exact pg_tup hc h hn hst
theorem klenset {a : Expr} {ta : TE} {p p2 q pos : Pos} (hg : Gl X "len") (hm : X.mg "len" = none) (hg2 : Gl X "set") (hm2 : X.mg "set" = none) (ha : PE X a ta) (hc : X.calm = true := by rfl)
    (na : starEach [a] X.env = (false, eval a X.env) :: starEach [] X.env := by rfl) (hK : X.K = K := by rfl) : PE X (.Call (.Name "len" p) [.Call (.Name "set" p2) [a] [] q] [] pos) (tLenSetJ K ta) := by
  subst hK
  exact pe_lenSetJ hg hm hg2 hm2 ha hc na
theorem kenum {e : Expr} {ta : TA} {p pos tpos : Pos} {elts : List Expr} {kk : Nat} (hg : Gl X "enumerate") (hm : X.mg "enumerate" = none) (ha : PA X [e] ta) (hs : starEach [e] X.env = [(false, eval e X.env)] := by rfl) (hK : X.K = K := by rfl) :
    PI X (.Tuple elts kk tpos) (.Call (.Name "enumerate" p) [e] [] pos) (iEnum K ta) := by
  subst hK
  exact pi_enum hg hm ha hs
theorem kbm0 {T : String} {name : Str} {id : String} {r : V → List V → Hp → VK → Prop} {o : Expr} {to : TE} {apos cpos : Pos} (pa : PlainAttrs T) (slot : Slot T name id) (hty : typeOf (.builtin id) = pure (.type "method_descriptor")) (hm : MtR X id r) (ho : PE X o to)
    (hbase : attributeBase o name X.env (eval o X.env) = eval o X.env := by rfl) (hline : (apos.endLine == cpos.line) = true := by rfl) (hK : X.K = K := by rfl) : PE X (.Call (.Attribute o name apos) [] [] cpos) (tBM0 K T r to) := by
  subst hK
  exact pe_bm0 pa slot hty hm ho hbase hline
theorem kbm {T : String} {name : Str} {id : String} {r : V → List V → Hp → VK → Prop} {o e : Expr} {es : List Expr} {to : TE} {t : TA} {apos cpos : Pos} (pa : PlainAttrs T) (slot : Slot T name id) (hty : typeOf (.builtin id) = pure (.type "method_descriptor")) (hm : MtR X id r) (ho : PE X o to) (ha : PA X (e :: es) t)
    (hbase : attributeBase o name X.env (eval o X.env) = eval o X.env := by rfl)
    (hfew : ((backTo cpos (starEach (e :: es) X.env)).all (fun x => !x.1) && (backToKw cpos (keywordEach [] X.env)).all (fun x => x.1.isSome)
      && decide ((e :: es).length + ([] : List Keyword).length + (if ([] : List Keyword).isEmpty then 0 else 1) < 30)) = true := by rfl) 
    (hline : (apos.endLine == cpos.line) = true := by rfl) (hs : starEach (e :: es) X.env = (false, eval e X.env) :: starEach es X.env := by rfl) (hplain : (backTo cpos (starEach es X.env)).any (·.1) = false := by rfl) (hK : X.K = K := by rfl) : PE X (.Call (.Attribute o name apos) (e :: es) [] cpos) (tBM K T r to t) := by
  subst hK
  exact pe_bm pa slot hty hm ho ha hbase hfew hline hs hplain
end
end El

namespace El
open PySem PySem.Spec L2
variable [LawTabs]
section
variable {K : PySem.W.Frag} {σ : St} {F H F' H' : Hp} {ta tb tc te tl : TE} {α β : Type} {R : Rp α} {S : Rp β} {x : α} {y : β}
/-- o.f of an instance that may change -/
theorem ev_fldM {f : Str} {a C dx : Addr} {fs : List (Str × V)} {w : V} (ha : Ev rRef ta σ F H a) (ho : H a = some (.ins C dx fs)) (c : Cls K C) (n : NoAttr K C f) (l : fs.lookup f = some w) (s : S F w y) (m : Mn S := by infer_instance) : Ev S (tFld K ta f) σ F H y := fun F1 H1 g1 Q q =>
  ha F1 H1 g1 _ fun v F2 H2 g2 r => ⟨a, C, dx, fs, w, r, g2.hx _ _ (g1.hx _ _ ho), c, n, l, q w F2 H2 g2 (m.mono (g1.ff.trans g2.ff) s)⟩
end
/-! ### draws -/
structure DrAt (CD CT : Addr) (F H : Hp) (a l : Addr) (T : Tn) (m : List Nat) (n : Nat) (ws : List V) : Prop where
  ne : a ≠ l
  fa : F a = none
  fl : F l = none
  ha : ∃ dx tv fv, H a = some (.ins CD dx [("turns", tv), ("found", fv), ("many", .int (n : Int)), ("told", .ref l)]) ∧ rTurns CT F tv T ∧ rTup rNat F fv m
  hl : H l = some (.lst ws)
theorem DrAt.gr {CD CT : Addr} {F H F' H' : Hp} {a l : Addr} {T : Tn} {m : List Nat} {n : Nat} {ws : List V} (d : DrAt CD CT F H a l T m n ws) (g : Gr M0 F H F' H') : DrAt CD CT F' H' a l T m n ws := by
  obtain ⟨ne, fa, fl, ⟨dx, tv, fv, h1, h2, h3⟩, hl⟩ := d
  exact ⟨ne, g.nn h1 fa, g.nn hl fl, ⟨dx, tv, fv, g.hx _ _ h1, Mn.mono g.ff h2, Mn.mono g.ff h3⟩, g.hx _ _ hl⟩
def drStep (T : Tn) (p : List Nat × Nat) (s : Nat) : List Nat × Nat := if metB p.1 = true then p else (thenM (T.maps.getD s []) p.1, p.2 + 1)
def drRun (T : Tn) (w : List Nat) : List Nat × Nat := w.foldl (drStep T) (idMap T.many, 0)
def plc (m : List Nat) : Option Nat := if metB m = true then some (m.headD 0) else none
def drawnM (T : Tn) (w : List Nat) : Option (Nat × Nat) := match plc (drRun T w).1 with
  | none => none
  | some p => some (p, (drRun T w).2)
/-- what begins a draw -/
def SpDraw (CD CT : Addr) : Sp := fun vs H Q _ => ∃ (F : Hp) (a dx : Addr) (tv : V) (T : Tn), vs = [.ref a, tv] ∧ ExT F H ∧ F a = none ∧ H a = some (.ins CD dx []) ∧ rTurns CT F tv T ∧
  ∀ l F' H', Gr (M1 a) F H F' H' → H l = none → DrAt CD CT F' H' a l T (idMap T.many) 0 [] → Q .non H'
def SpElder (CD CT : Addr) : Sp := fun vs H Q _ => ∃ (F : Hp) (a l : Addr) (T : Tn) (m : List Nat) (n : Nat) (ws : List V) (s : Nat), vs = [.ref a, .int (s : Int)] ∧ ExT F H ∧ DrAt CD CT F H a l T m n ws ∧ IsMap T.many m ∧ s < T.maps.length ∧ ws.length ≤ 1000000 ∧
  ∀ v F' H', Gr (fun b => b = a ∨ b = l) F H F' H' → DrAt CD CT F' H' a l T (drStep T (m, n) s).1 (drStep T (m, n) s).2 (ws ++ [.int (s : Int)]) → rOpt rNat F' v (plc (drStep T (m, n) s).1) → Q v H'
def SpPlace (CD CT : Addr) : Sp := fun vs H Q _ => ∃ (F : Hp) (a l : Addr) (T : Tn) (m : List Nat) (n : Nat) (ws : List V), vs = [.ref a] ∧ ExT F H ∧ DrAt CD CT F H a l T m n ws ∧ IsMap T.many m ∧
  ∀ v F' H', Gr M0 F H F' H' → rOpt rNat F' v (plc m) → Q v H'
def SpUsed (CD CT : Addr) : Sp := fun vs H Q _ => ∃ (F : Hp) (a l : Addr) (T : Tn) (m : List Nat) (n : Nat) (ws : List V), vs = [.ref a] ∧ ExT F H ∧ DrAt CD CT F H a l T m n ws ∧
  ∀ v F' H', Gr M0 F H F' H' → rNat F' v n → Q v H'
section
variable {K : PySem.W.Frag} {σ : St} {F H F' H' : Hp} {ta : TE} {CD CT a l : Addr} {T : Tn} {m : List Nat} {n : Nat} {ws : List V} {E : XK}
theorem ev_place (ha : Ev rRef ta σ F H a) (d : DrAt CD CT F H a l T m n ws) (hm : IsMap T.many m) : Ev (rOpt rNat) (tMeth CD "place" (SpPlace CD CT) [] E ta tNil) σ F H (plc m) := fun F1 H1 g1 Q q =>
  ha F1 H1 g1 _ fun v F2 H2 g2 r => by
    cases (show v = _ from r)
    have d2 := d.gr (g1.trans g2)
    obtain ⟨dx, tv, fv, h1, h2, h3⟩ := id d2.ha
    exact ⟨a, dx, _, rfl, h1, rfl, F2, a, l, T, m, n, ws, rfl, g2.fh, d2, hm, fun v F' H' g k => q v F' H' (g2.trans g) k⟩
theorem ev_used (ha : Ev rRef ta σ F H a) (d : DrAt CD CT F H a l T m n ws) : Ev rNat (tMeth CD "used" (SpUsed CD CT) [] E ta tNil) σ F H n := fun F1 H1 g1 Q q =>
  ha F1 H1 g1 _ fun v F2 H2 g2 r => by
    cases (show v = _ from r)
    have d2 := d.gr (g1.trans g2)
    obtain ⟨dx, tv, fv, h1, h2, h3⟩ := id d2.ha
    exact ⟨a, dx, _, rfl, h1, rfl, F2, a, l, T, m, n, ws, rfl, g2.fh, d2, fun v F' H' g k => q v F' H' (g2.trans g) k⟩
end
theorem isMap_step {T : Tn} {p : List Nat × Nat} {s : Nat} (h : IsMap T.many p.1) (hs : s < T.maps.length) : IsMap T.many (drStep T p s).1 := by
  unfold drStep
  split
  · exact h
  · exact isMap_then (T.isMap hs) h
theorem isMap_run {T : Tn} {w : List Nat} (hs : ∀ s ∈ w, s < T.maps.length) : IsMap T.many (drRun T w).1 := by
  have : ∀ (w : List Nat) (p : List Nat × Nat), IsMap T.many p.1 → (∀ s ∈ w, s < T.maps.length) → IsMap T.many (w.foldl (drStep T) p).1 := fun w => by
    induction w with
    | nil => exact fun p h _ => h
    | cons s w ih => exact fun p h hs => ih _ (isMap_step h (hs s List.mem_cons_self)) fun s' h' => hs s' (List.mem_cons_of_mem _ h')
  exact this w _ (isMap_id _) hs
theorem headD_lt {n : Nat} {m : List Nat} (h : IsMap n m) (h0 : 1 ≤ n) : m.headD 0 < n := by
  cases m with
  | nil => have := h.1; simp at this; omega
  | cons a m => exact h.2 a List.mem_cons_self
theorem at0 {m : List Nat} (h : 1 ≤ m.length) : atI m 0 = some (m.headD 0) := by
  cases m with
  | nil => simp at h
  | cons a m => exact atI_natL (n := 0) rfl
end El
namespace El
open PySem PySem.Spec L2
variable [LawTabs]
theorem Gr.seq0 {M : Addr → Prop} {F H F1 H1 F2 H2 : Hp} (g : Gr M0 F H F1 H1) (g2 : Gr M F1 H1 F2 H2) (n : ∀ b, M b → H b = none) : Gr M0 F H F2 H2 where
  ff := g.ff.trans g2.ff
  fh := g2.fh
  hh0 := fun b o _ t h => g2.hh0 b o (fun z => by rw [n b z] at h; cases h) t (g.hh0 b o (fun z => z) t h)
  t0 := g.t0
  nw := fun b _ h f => g2.nw b (fun z => h (n b z)) (g.dm b h) (g.nw b (fun z => z) h f)
  dm := fun b h => g2.dm b (g.dm b h)
/-- a new instance, its dict laid -/
theorem Gr.make {F H F' H' : Hp} {x dx C : Addr} (e : ExT F H) (nx : H x = none) (ndx : H dx = none) (nex : dx ≠ x) (g : Gr (M1 x) F (upd (upd H dx (.own x)) x (.ins C dx [])) F' H') : Gr M0 F H F' H' := .made (M := M0) nx ndx nex.symm g
theorem Ex.make {F H : Hp} {x dx C : Addr} (e : ExT F H) (nx : H x = none) (ndx : H dx = none) (nex : dx ≠ x) : ExT F (upd (upd H dx (.own x)) x (.ins C dx [])) := ExT.make e nx ndx nex.symm
/-! reading once -/
def roLoop (t : Tn) (long : Nat) (w : List Nat) : Nat → Nat → Option Nat → Option (Nat × Nat)
  | 0, _, _ => none
  | n + 1, k, none => roLoop t long w n (k + 1) (plc (mapW t ((w.drop (k * long)).take long)))
  | n + 1, k, some s => if metB (mapW t ((w.drop (k * long)).take long)) = true then some (s, k + 1) else roLoop t long w n (k + 1) (some ((mapW t ((w.drop (k * long)).take long)).getD s 0))
def readOnceM (t : Tn) (long : Nat) (w : List Nat) : Option (Nat × Nat) := roLoop t long w (w.length / long) 0 none
end El

set_option Elab.async false
set_option linter.all false
set_option maxRecDepth 100000
set_option maxHeartbeats 2000000
namespace El
open PySem PySem.Spec L2
variable [LawTabs]
/-! ### what draws of a source -/
def EvS {α : Type} (a : Addr) (c : Nat) (R : Rp α) (te : TE) (σ : St) (F H : Hp) (P : α → Prop) : Prop :=
  ∀ F1 H1 N, Gr (M1 a) F H F1 H1 → F1 a = none → Src H1 a (N + c) → ∀ Q : VK, (∀ v x F2 H2, Gr (M1 a) F1 H1 F2 H2 → F2 a = none → Src H2 a N → P x → R F2 v x → Q v H2) → te σ H1 Q
def EvTS (a : Addr) (c : Nat) (tt : TT) (σ : St) (F H : Hp) (P : Bool → Prop) : Prop :=
  ∀ F1 H1 N, Gr (M1 a) F H F1 H1 → F1 a = none → Src H1 a (N + c) → ∀ Q : Bool → Hp → Prop, (∀ b F2 H2, Gr (M1 a) F1 H1 F2 H2 → F2 a = none → Src H2 a N → P b → Q b H2) → tt σ H1 Q
def SpS0 (c : Nat) {β : Type} (S : Rp β) (P : β → Prop) : Sp := fun vs H Q _ => ∃ F a N, vs = [.ref a] ∧ ExT F H ∧ F a = none ∧ Src H a (N + c) ∧
  ∀ w y F' H', Gr (M1 a) F H F' H' → F' a = none → Src H' a N → P y → S F' w y → Q w H'
def SpS1 (c : Nat) {α β : Type} (R : Rp α) (Pre : α → Prop) (S : Rp β) (P : α → β → Prop) : Sp := fun vs H Q _ => ∃ F a N v x, vs = [.ref a, v] ∧ ExT F H ∧ F a = none ∧ Src H a (N + c) ∧ R F v x ∧ Pre x ∧
  ∀ w y F' H', Gr (M1 a) F H F' H' → F' a = none → Src H' a N → P x y → S F' w y → Q w H'
def SpS2 (c : Nat) {α β γ : Type} (R : Rp α) (R2 : Rp γ) (Pre : α → γ → Prop) (S : Rp β) (P : α → γ → β → Prop) : Sp := fun vs H Q _ => ∃ F a N v u x z, vs = [.ref a, v, u] ∧ ExT F H ∧ F a = none ∧ Src H a (N + c) ∧ R F v x ∧ R2 F u z ∧ Pre x z ∧
  ∀ w y F' H', Gr (M1 a) F H F' H' → F' a = none → Src H' a N → P x z y → S F' w y → Q w H'
class SpLen (sp : Sp) (n : outParam Nat) : Prop where
  len : ∀ {vs H Q E}, sp vs H Q E → vs.length = n
section
variable {α β γ δ ε : Type} {R : Rp α} {S : Rp β} {T : Rp γ} {U : Rp δ} {W : Rp ε}
instance {p : α → Prop} {f : α → β} : SpLen (Sp1 R p S f) 1 := ⟨fun ⟨_, _, _, h, _⟩ => by rw [h]; rfl⟩
instance {p : α → β → Prop} {f : α → β → γ} : SpLen (Sp2 R S p T f) 2 := ⟨fun ⟨_, _, _, _, _, h, _⟩ => by rw [h]; rfl⟩
instance {p : α → β → γ → Prop} {f : α → β → γ → δ} : SpLen (Sp3 R S T p U f) 3 := ⟨fun ⟨_, _, _, _, _, _, _, h, _⟩ => by rw [h]; rfl⟩
instance {p : α → β → γ → δ → Prop} {f : α → β → γ → δ → ε} : SpLen (Sp4 R S T U p W f) 4 := ⟨fun ⟨_, _, _, _, _, _, _, _, _, h, _⟩ => by rw [h]; rfl⟩
instance {c : Nat} {P : β → Prop} : SpLen (SpS0 c S P) 1 := ⟨fun ⟨_, _, _, h, _⟩ => by rw [h]; rfl⟩
instance {c : Nat} {p : α → Prop} {P : α → β → Prop} : SpLen (SpS1 c R p S P) 2 := ⟨fun ⟨_, _, _, _, _, h, _⟩ => by rw [h]; rfl⟩
instance {c : Nat} {p : α → γ → Prop} {P : α → γ → β → Prop} : SpLen (SpS2 c R T p S P) 3 := ⟨fun ⟨_, _, _, _, _, _, _, h, _⟩ => by rw [h]; rfl⟩
instance {a b : Addr} : SpLen (SpDraw a b) 2 := ⟨fun ⟨_, _, _, _, _, h, _⟩ => by rw [h]; rfl⟩
instance {a b : Addr} : SpLen (SpElder a b) 2 := ⟨fun ⟨_, _, _, _, _, _, _, _, h, _⟩ => by rw [h]; rfl⟩
instance {a b : Addr} : SpLen (SpPlace a b) 1 := ⟨fun ⟨_, _, _, _, _, _, _, h, _⟩ => by rw [h]; rfl⟩
instance {a b : Addr} : SpLen (SpUsed a b) 1 := ⟨fun ⟨_, _, _, _, _, _, _, h, _⟩ => by rw [h]; rfl⟩
instance {C : Addr} : SpLen (SpTurns C) 3 := ⟨fun ⟨_, _, _, _, _, h, _⟩ => by rw [h]; rfl⟩
end
section
variable {K : PySem.W.Frag} {σ : St} {F H F' H' : Hp} {ta tb tc te tl : TE} {tt t u : TT} {α β γ δ ε : Type} {R : Rp α} {S : Rp β} {T : Rp γ} {x : α} {y : β} {z : γ} {xs : List α} {a : Addr} {c c1 c2 N : Nat} {P P1 : α → Prop} {P2 : β → Prop} {D : Ends} {ts tu : TS} {E : XK}
theorem EvS.mono {c' : Nat} {P' : α → Prop} (h : EvS a c R te σ F H P) (hp : ∀ x, P x → P' x) (hc : c ≤ c') : EvS a c' R te σ F H P' := fun F1 H1 N g fa s Q q =>
  h F1 H1 (N + (c' - c)) g fa (s.le (by omega)) Q fun v x F2 H2 g2 fa2 s2 p r => q v x F2 H2 g2 fa2 (s2.le (by omega)) (hp x p) r
theorem EvS.gr (h : EvS a c R te σ F H P) (g : Gr (M1 a) F H F' H') : EvS a c R te σ F' H' P := fun F1 H1 N g1 fa s Q q => h F1 H1 N (g.trans g1) fa s Q q
theorem Src.someO {H : Hp} (s : Src H a N) : ∃ o, H a = some o := by
  obtain ⟨n, c, k, h, _⟩ := s
  exact ⟨_, h⟩
theorem es_pure (h : ∀ F1 H1, Gr (M1 a) F H F1 H1 → F1 a = none → Ev R te σ F1 H1 x) : EvS a 0 R te σ F H (fun y => y = x) := fun F1 H1 N g fa s Q q =>
  h F1 H1 g fa F1 H1 (.refl g.fh) Q fun v F2 H2 g2 r => by
    obtain ⟨o, ho⟩ := s.someO
    exact q v x F2 H2 g2.up (g2.nn ho fa) (s.gr g2) rfl r
theorem ets_pure {b : Bool} (h : ∀ F1 H1, Gr (M1 a) F H F1 H1 → F1 a = none → EvT tt σ F1 H1 b) : EvTS a 0 tt σ F H (fun y => y = b) := fun F1 H1 N g fa s Q q =>
  h F1 H1 g fa F1 H1 (.refl g.fh) Q fun F2 H2 g2 => by
    obtain ⟨o, ho⟩ := s.someO
    exact q b F2 H2 g2.up (g2.nn ho fa) (s.gr g2) rfl
theorem es_var {i : Nat} {v : V} (h : σ[i]? = some (some v)) (r : R F v x) (m : Mn R := by infer_instance) : EvS a 0 R (tVar i) σ F H (fun y => y = x) := es_pure fun F1 H1 g _ => ev_var h (m.mono g.ff r)
theorem es_int {i : Int} : EvS a 0 rInt (tC (.int i)) σ F H (fun y => y = i) := es_pure fun _ _ _ _ => ev_int
theorem ev_lit {i : Int} {n : Nat} (h : i = (n : Int) := by rfl) : Ev rNat (tC (.int i)) σ F H n := by
  subst h
  exact ev_int
theorem es_lit {i : Int} {n : Nat} (h : i = (n : Int) := by rfl) : EvS a 0 rNat (tC (.int i)) σ F H (fun y => y = n) := es_pure fun _ _ _ _ => ev_lit h
theorem EvS.nat {P : Nat → Prop} (h : EvS a c rNat te σ F H P) : EvS a c rInt te σ F H (fun i => ∃ n : Nat, i = (n : Int) ∧ P n) := fun F1 H1 N g fa s Q q =>
  h F1 H1 N g fa s Q fun v x F2 H2 g2 fa2 s2 p r => q v (x : Int) F2 H2 g2 fa2 s2 ⟨x, rfl, p⟩ r
theorem EvS.toNat {P : Int → Prop} {P' : Nat → Prop} (h : EvS a c rInt te σ F H P) (hp : ∀ i, P i → ∃ n : Nat, i = (n : Int) ∧ P' n) : EvS a c rNat te σ F H P' := fun F1 H1 N g fa s Q q =>
  h F1 H1 N g fa s Q fun v x F2 H2 g2 fa2 s2 p r => by
    obtain ⟨n, rfl, p'⟩ := hp x p
    exact q v n F2 H2 g2 fa2 s2 p' r
/-- two parts, one behind the other -/
theorem es_two {r : R2} {P' : γ → Prop} (ha : EvS a c1 R ta σ F H P1) (hb : EvS a c2 S tb σ F H P2) (m : Mn R)
    (k : ∀ F3 H3 N v w x y (Q : VK), ExT F3 H3 → F3 a = none → Src H3 a N → P1 x → P2 y → R F3 v x → S F3 w y → (∀ u z F4 H4, Gr M0 F3 H3 F4 H4 → P' z → T F4 u z → Q u H4) → r v w H3 Q) : EvS a (c1 + c2) T (tOp r ta tb) σ F H P' := fun F1 H1 N g fa s Q q =>
  ha F1 H1 (N + c2) g fa (s.le (by omega)) _ fun v x F2 H2 g2 fa2 s2 p1 r1 => hb F2 H2 N (g.trans g2) fa2 s2 _ fun w y F3 H3 g3 fa3 s3 p2 r2 =>
    k F3 H3 N v w x y Q g3.fh fa3 s3 p1 p2 (m.mono g3.ff r1) r2 fun u z F4 H4 g4 p4 r4 => by
      obtain ⟨o, ho⟩ := s3.someO
      exact q u z F4 H4 ((g2.trans g3).trans g4.up) (g4.nn ho fa3) (s3.gr g4) p4 r4
theorem es_I0 {P1 P2 : Int → Prop} {g : Int → Int → V} {f : Int → Int → γ} (ha : EvS a c1 rInt ta σ F H P1) (hb : EvS a c2 rInt tb σ F H P2) (hz : ∀ F i j, T F (g i j) (f i j)) : EvS a (c1 + c2) T (tOp (rI0 g) ta tb) σ F H (fun z => ∃ i j, P1 i ∧ P2 j ∧ z = f i j) :=
  es_two ha hb inferInstance fun F3 H3 N v w i j Q e fa s p1 p2 r1 r2 q => ⟨i, j, r1, r2, q _ _ F3 H3 (.refl e) ⟨i, j, p1, p2, rfl⟩ (hz F3 i j)⟩
theorem es_I {P1 P2 : Int → Prop} {C : Int → Int → Prop} {g : Int → Int → V} {f : Int → Int → γ} (ha : EvS a c1 rInt ta σ F H P1) (hb : EvS a c2 rInt tb σ F H P2) (hc : ∀ i j, P1 i → P2 j → C i j) (hz : ∀ F i j, T F (g i j) (f i j)) : EvS a (c1 + c2) T (tOp (rI C g) ta tb) σ F H (fun z => ∃ i j, P1 i ∧ P2 j ∧ z = f i j) :=
  es_two ha hb inferInstance fun F3 H3 N v w i j Q e fa s p1 p2 r1 r2 q => ⟨i, j, r1, r2, hc i j p1 p2, q _ _ F3 H3 (.refl e) ⟨i, j, p1, p2, rfl⟩ (hz F3 i j)⟩
theorem es_add {P1 P2 : Int → Prop} (ha : EvS a c1 rInt ta σ F H P1) (hb : EvS a c2 rInt tb σ F H P2) : EvS a (c1 + c2) rInt (tOp (rI0 fun i j => .int (i + j)) ta tb) σ F H (fun z => ∃ i j, P1 i ∧ P2 j ∧ z = i + j) := es_I0 ha hb fun _ _ _ => rfl
theorem es_sub {P1 P2 : Int → Prop} (ha : EvS a c1 rInt ta σ F H P1) (hb : EvS a c2 rInt tb σ F H P2) : EvS a (c1 + c2) rInt (tOp (rI0 fun i j => .int (i - j)) ta tb) σ F H (fun z => ∃ i j, P1 i ∧ P2 j ∧ z = i - j) := es_I0 ha hb fun _ _ _ => rfl
theorem es_mul {P1 P2 : Int → Prop} (ha : EvS a c1 rInt ta σ F H P1) (hb : EvS a c2 rInt tb σ F H P2) (hc : ∀ i j, P1 i → P2 j → CMul i j) : EvS a (c1 + c2) rInt (tOp (rI CMul fun i j => .int (i * j)) ta tb) σ F H (fun z => ∃ i j, P1 i ∧ P2 j ∧ z = i * j) := es_I ha hb hc fun _ _ _ => rfl
theorem es_eqI {P1 P2 : Int → Prop} (ha : EvS a c1 rInt ta σ F H P1) (hb : EvS a c2 rInt tb σ F H P2) : EvS a (c1 + c2) rBl (tOp rEq ta tb) σ F H (fun z => ∃ i j, P1 i ∧ P2 j ∧ z = decide (i = j)) :=
  es_two ha hb inferInstance fun F3 H3 N v w i j Q e fa s p1 p2 r1 r2 q => by
    cases (show v = _ from r1)
    cases (show w = _ from r2)
    refine ⟨rfl, ?_⟩
    have e1 : decide (V.int i = V.int j) = decide (i = j) := by simp
    rw [e1]
    exact q _ _ F3 H3 (.refl e) ⟨i, j, p1, p2, rfl⟩ rfl
theorem es_gtI {P1 P2 : Int → Prop} (ha : EvS a c1 rInt ta σ F H P1) (hb : EvS a c2 rInt tb σ F H P2) : EvS a (c1 + c2) rBl (tOp (rI0 fun i j => .bl (decide (j < i))) ta tb) σ F H (fun z => ∃ i j, P1 i ∧ P2 j ∧ z = decide (j < i)) := es_I0 ha hb fun _ _ _ => rfl
/-- an item of a frozen list, at a drawn place -/
theorem es_ixL {P2 : Int → Prop} (ha : ∀ F1 H1, Gr (M1 a) F H F1 H1 → F1 a = none → Ev (rLst R) ta σ F1 H1 xs) (hb : EvS a c rInt tb σ F H P2) (h : ∀ i, P2 i → ∃ x, atI xs i = some x) (m : Mn R := by infer_instance) : EvS a c R (tOp (rIxL K) ta tb) σ F H (fun x => ∃ i, P2 i ∧ atI xs i = some x) :=
  (es_two (es_pure ha) hb inferInstance fun F3 H3 N v w ys i Q e fa s p1 p2 ⟨b, vs, eb, hl, p⟩ r2 q => by
    subst p1
    obtain ⟨x, hx⟩ := h i p2
    obtain ⟨y, hy, ry⟩ := atI_paired p hx
    exact ⟨b, vs, i, y, eb, r2, SqL.of (e _ _ hl), hy, q y x F3 H3 (.refl e) ⟨i, p2, hx⟩ ry⟩).mono (fun _ h => h) (by omega)
theorem es_pr {P1 : α → Prop} (ha : EvS a c1 R ta σ F H P1) (hb : EvS a c2 S tb σ F H P2) (m : Mn R := by infer_instance) (n : Mn S := by infer_instance) : EvS a (c1 + c2) (rPr R S) (tTup (tCons ta (tCons tb tNil))) σ F H (fun p => P1 p.1 ∧ P2 p.2) := fun F1 H1 N g fa s Q q =>
  ha F1 H1 (N + c2) g fa (s.le (by omega)) _ fun v x F2 H2 g2 fa2 s2 p1 r1 => hb F2 H2 N (g.trans g2) fa2 s2 _ fun w y F3 H3 g3 fa3 s3 p2 r2 => ⟨by show 2 ≤ sizeLine; decide, fun B hB => by
    have g4 : Gr M0 F3 H3 (upd F3 B (.tup [v, w])) (upd H3 B (.tup [v, w])) := .new g3.fh hB
    obtain ⟨o, ho⟩ := s3.someO
    exact q _ (x, y) _ _ ((g2.trans g3).trans g4.up) (g4.nn ho fa3) (s3.gr g4) ⟨p1, p2⟩ ⟨B, v, w, rfl, upd_same, m.mono (g3.ff.trans g4.ff) r1, n.mono g4.ff r2⟩⟩
theorem es_tupL {P : List α → Prop} (ha : EvS a c (rLst R) ta σ F H P) (m : Mn R := by infer_instance) : EvS a c (rTup R) (tCB (rTupS K) (tCons ta tNil)) σ F H P := fun F1 H1 N g fa s Q q =>
  ha F1 H1 N g fa s _ fun v x F2 H2 g2 fa2 s2 p ⟨b, vs, e, hl, pr⟩ => ⟨b, vs, by rw [e], .inl ⟨SqL.of (g2.fh _ _ hl), fun B hB => by
    have g4 : Gr M0 F2 H2 (upd F2 B (.tup vs)) (upd H2 B (.tup vs)) := .new g2.fh hB
    obtain ⟨o, ho⟩ := s2.someO
    exact q _ x _ _ (g2.trans g4.up) (g4.nn ho fa2) (s2.gr g4) p ⟨B, vs, rfl, upd_same, Paired.up g4.ff pr⟩⟩⟩
/-! calls -/
theorem es_call0 {i : Nat} (hv : σ[i]? = some (some (.ref a))) : EvS a c S (tCall (SpS0 c S P2) [] E (tCons (tVar i) tNil)) σ F H P2 := fun F1 H1 N g fa s Q q =>
  ⟨.ref a, hv, F1, a, N, rfl, g.fh, fa, s, fun w y F' H' g' fa' s' p r => q w y F' H' g' fa' s' p r⟩
theorem es_call1 {i : Nat} {Pre : α → Prop} {P' : α → β → Prop} (hv : σ[i]? = some (some (.ref a))) (hb : EvS a c2 R tb σ F H P1) (hp : ∀ x, P1 x → Pre x) : EvS a (c2 + c) S (tCall (SpS1 c R Pre S P') [] E (tCons (tVar i) (tCons tb tNil))) σ F H (fun y => ∃ x, P1 x ∧ P' x y) := fun F1 H1 N g fa s Q q =>
  ⟨.ref a, hv, hb F1 H1 (N + c) g fa (s.le (by omega)) _ fun v x F2 H2 g2 fa2 s2 p r => ⟨F2, a, N, v, x, rfl, g2.fh, fa2, s2, r, hp x p, fun w y F' H' g' fa' s' p' r' => q w y F' H' (g2.trans g') fa' s' ⟨x, p, p'⟩ r'⟩⟩
theorem es_call2 {i : Nat} {Pre : α → γ → Prop} {P' : α → γ → β → Prop} {P3 : γ → Prop} {c3 : Nat} (hv : σ[i]? = some (some (.ref a))) (hb : EvS a c2 R tb σ F H P1) (hc : EvS a c3 T tc σ F H P3) (hp : ∀ x z, P1 x → P3 z → Pre x z) (m : Mn R := by infer_instance) : EvS a (c2 + c3 + c) S (tCall (SpS2 c R T Pre S P') [] E (tCons (tVar i) (tCons tb (tCons tc tNil)))) σ F H (fun y => ∃ x z, P1 x ∧ P3 z ∧ P' x z y) := fun F1 H1 N g fa s Q q =>
  ⟨.ref a, hv, hb F1 H1 (N + c3 + c) g fa (s.le (by omega)) _ fun v x F2 H2 g2 fa2 s2 p r => hc F2 H2 (N + c) (g.trans g2) fa2 (s2.le (by omega)) _ fun u z F3 H3 g3 fa3 s3 p3 r3 => ⟨F3, a, N, v, u, x, z, rfl, g3.fh, fa3, s3, m.mono g3.ff r, r3, hp x z p p3, fun w y F' H' g' fa' s' p' r' => q w y F' H' ((g2.trans g3).trans g') fa' s' ⟨x, z, p, p3, p'⟩ r'⟩⟩
/-! [elt for k in range(n)] -/
theorem es_lcR {j B : Nat} {vs : List Nat} {P1 : Int → Prop} {P2 : Nat → β → Prop} (h : EvS a c1 rInt ta σ F H P1) (hn : ∀ n, P1 n → 0 ≤ n ∧ n ≤ (B : Int)) (hB : B ≤ 1000000) (hw : ∀ v, wipe ((wipe σ vs).set j (some v)) vs = wipe σ vs)
    (he : ∀ i : Nat, i < B → ∀ F1 H1, Gr (M1 a) F H F1 H1 → F1 a = none → EvS a c2 S te ((wipe σ vs).set j (some (.int (i : Int)))) F1 H1 (P2 i)) (m' : Mn S := by infer_instance) :
    EvS a (c1 + B * c2) (rLst S) (tLc (iRng1 (tCons ta tNil)) (gName j) tYes te vs) σ F H (fun l => ∃ n, P1 n ∧ (l.length : Int) = n ∧ ∀ (i : Nat) x, l[i]? = some x → P2 i x) := by
  intro F1 H1 N g1 fa s Q q
  refine h F1 H1 (N + B * c2) g1 fa (s.le (by omega)) _ fun v n F2 H2 g2 fa2 s2 p ea => ?_
  obtain ⟨n0, n1⟩ := hn n p
  refine ⟨n, by rw [show v = _ from ea], by omega, by omega, fun B' hD => ?_⟩
  obtain ⟨k, hk⟩ : ∃ k : Nat, n = (k : Int) := ⟨n.toNat, by omega⟩
  subst hk
  rw [Int.toNat_natCast]
  have hne : B' ≠ a := fun z => by
    subst z
    exact s2.hn hD
  refine lc_range (lo := 0) (n := k) (fun i H' => ∃ F' us l, Gr (M1 a) F2 H2 F' H' ∧ F' a = none ∧ Src H' a (N + (B - i) * c2) ∧ F' B' = none ∧ H' B' = some (.lst us) ∧ l.length = i ∧ Paired (S F') us l ∧ ∀ (t : Nat) x, l[t]? = some x → P2 t x)
    ⟨F2, [], [], .loc g2.fh hD, fa2, (by rw [Nat.sub_zero]; exact s2.ex (upd_ne hne.symm)), g2.fh.free hD, upd_same, rfl, .nil, fun t x hx => by simp at hx⟩ ?_ ?_
  · rintro i H' hi ⟨F', us, l, g, fa', s', fD, hD', hl, pu, hP⟩
    have e0 : (0 : Int) + (i : Int) = (i : Int) := Int.zero_add _
    rw [e0]
    refine ⟨hw _, ?_⟩
    have hb : (B - i) * c2 = (B - (i + 1)) * c2 + c2 := by
      rw [show B - i = (B - (i + 1)) + 1 by omega, Nat.succ_mul]
    refine he i (by omega) F' H' ((g1.trans g2).trans g) fa' F' H' (N + (B - (i + 1)) * c2) (.refl g.fh) fa' (s'.le (by omega)) _ fun u y F3 H3 g3 fa3 s3 py r3 => ?_
    have hD3 : H3 B' = some (.lst us) := g3.hh _ _ hne hD'
    have fD3 : F3 B' = none := g3.nw B' hne (by rw [hD']; exact fun z => nomatch z) fD
    refine ⟨us, hD3, ?_, F3, us ++ [u], l ++ [y], (g.trans g3).set' fD3 (.inl hD), fa3, s3.ex (upd_ne hne.symm), fD3, upd_same, by rw [List.length_append, hl]; rfl, (Paired.up g3.ff pu).snoc r3, ?_⟩
    · rw [pu.length, hl, sizeLine_eq]
      omega
    · intro t x hx
      by_cases ht : t < l.length
      · rw [List.getElem?_append_left ht] at hx
        exact hP t x hx
      · have ht2 : t < (l ++ [y]).length := (List.getElem?_eq_some_iff.mp hx).1
        rw [List.length_append] at ht2
        have e1 : t = l.length := by simp at ht2; omega
        subst e1
        rw [List.getElem?_append_right (Nat.le_refl _), Nat.sub_self] at hx
        cases hx
        rw [hl]
        exact py
  · rintro H' ⟨F', us, l, g, fa', s', fD, hD', hl, pu, hP⟩
    exact q _ l _ _ (g2.trans (g.frz hD' (g2.fh.free hD) (.inl hD))) (by rw [upd_ne hne.symm]; exact fa') (s'.le (Nat.le_add_right _ _)) ⟨(k : Int), p, by rw [hl], hP⟩ ⟨B', us, rfl, upd_same, Paired.up (g.fh.frz hD' fD) pu⟩
theorem es_callP {i : Nat} {Pre : α → Prop} {P' : α → β → Prop} (hv : σ[i]? = some (some (.ref a))) (hb : ∀ F1 H1, Gr (M1 a) F H F1 H1 → F1 a = none → Ev R tb σ F1 H1 x) (hp : Pre x) : EvS a c S (tCall (SpS1 c R Pre S P') [] E (tCons (tVar i) (tCons tb tNil))) σ F H (fun y => P' x y) :=
  (es_call1 hv (es_pure hb) (fun z e => by rw [e]; exact hp)).mono (fun y ⟨z, e, p⟩ => by rw [← e]; exact p) (by omega)
theorem es_callP2 {i : Nat} {Pre : α → γ → Prop} {P' : α → γ → β → Prop} (hv : σ[i]? = some (some (.ref a))) (hb : ∀ F1 H1, Gr (M1 a) F H F1 H1 → F1 a = none → Ev R tb σ F1 H1 x) (hc : ∀ F1 H1, Gr (M1 a) F H F1 H1 → F1 a = none → Ev T tc σ F1 H1 z) (hp : Pre x z) (m : Mn R := by infer_instance) : EvS a c S (tCall (SpS2 c R T Pre S P') [] E (tCons (tVar i) (tCons tb (tCons tc tNil)))) σ F H (fun y => P' x z y) :=
  (es_call2 hv (es_pure hb) (es_pure hc) (fun u w e e2 => by rw [e, e2]; exact hp) m).mono (fun y ⟨u, w, e, e2, p⟩ => by rw [← e, ← e2]; exact p) (by omega)
theorem es_lcRP {j n B : Nat} {vs : List Nat} {P2 : Nat → β → Prop} (h : ∀ F1 H1, Gr (M1 a) F H F1 H1 → F1 a = none → Ev rInt ta σ F1 H1 (n : Int)) (hn : n ≤ B) (hB : B ≤ 1000000) (hw : ∀ v, wipe ((wipe σ vs).set j (some v)) vs = wipe σ vs)
    (he : ∀ i : Nat, i < n → ∀ F1 H1, Gr (M1 a) F H F1 H1 → F1 a = none → EvS a c2 S te ((wipe σ vs).set j (some (.int (i : Int)))) F1 H1 (P2 i)) (m' : Mn S := by infer_instance) :
    EvS a (B * c2) (rLst S) (tLc (iRng1 (tCons ta tNil)) (gName j) tYes te vs) σ F H (fun l => l.length = n ∧ ∀ (i : Nat) x, l[i]? = some x → P2 i x) :=
  (es_lcR (B := n) (es_pure h) (fun k e => by rw [e]; omega) (by omega) hw he m').mono (fun l ⟨k, e, hl, p⟩ => ⟨by omega, p⟩) (by rw [Nat.zero_add]; exact Nat.mul_le_mul_right _ hn)
/-! tests -/
theorem ets_test {P : Bool → Prop} (h : EvS a c rBl te σ F H P) : EvTS a c (tTest te) σ F H P := fun F1 H1 N g fa s Q q => h F1 H1 N g fa s _ fun v b F2 H2 g2 fa2 s2 p r => ⟨b, r, q b F2 H2 g2 fa2 s2 p⟩
theorem ets_B {P : Bool → Prop} (h : EvS a c rBl te σ F H P) : EvTS a c (tB te) σ F H P := fun F1 H1 N g fa s Q q => h F1 H1 N g fa s _ fun v b F2 H2 g2 fa2 s2 p r => ⟨b, r, q b F2 H2 g2 fa2 s2 p⟩
theorem ets_and {P1 P2 : Bool → Prop} (h1 : EvTS a c1 t σ F H P1) (h2 : EvTS a c2 u σ F H P2) : EvTS a (c1 + c2) (tAnd t u) σ F H (fun b => b = true → P1 true ∧ P2 true) := fun F1 H1 N g fa s Q q =>
  h1 F1 H1 (N + c2) g fa (s.le (by omega)) _ fun b F2 H2 g2 fa2 s2 p => by
    cases b with
    | true => exact h2 F2 H2 N (g.trans g2) fa2 s2 _ fun b F3 H3 g3 fa3 s3 p3 => q b F3 H3 (g2.trans g3) fa3 s3 fun e => ⟨p, e ▸ p3⟩
    | false => exact q false F2 H2 g2 fa2 (s2.le (by omega)) fun e => nomatch e
/-! statements -/
theorem x_setS {i : Nat} (h : EvS a c R te σ F H P) (e : ExT F H) (fa : F a = none) (s : Src H a N) (hc : c ≤ N) (k : ∀ v x F' H', Gr (M1 a) F H F' H' → F' a = none → Src H' a (N - c) → P x → R F' v x → D.nx (σ.set i (some v)) H') : tAsg te (gName i) D σ H :=
  h F H (N - c) (.refl e) fa (s.le (by omega)) _ fun v x F' H' g fa' s' p r => k v x F' H' g fa' s' p r
theorem x_retS (h : EvS a c R te σ F H P) (e : ExT F H) (fa : F a = none) (s : Src H a N) (hc : c ≤ N) (k : ∀ v x F' H', Gr (M1 a) F H F' H' → F' a = none → Src H' a (N - c) → P x → R F' v x → D.rt v H') : tRet te D σ H :=
  h F H (N - c) (.refl e) fa (s.le (by omega)) _ fun v x F' H' g fa' s' p r => k v x F' H' g fa' s' p r
theorem x_ifS {P : Bool → Prop} (h : EvTS a c t σ F H P) (e : ExT F H) (fa : F a = none) (s : Src H a N) (hc : c ≤ N) (k1 : P true → ∀ F' H', Gr (M1 a) F H F' H' → F' a = none → Src H' a (N - c) → ts D σ H') (k2 : P false → ∀ F' H', Gr (M1 a) F H F' H' → F' a = none → Src H' a (N - c) → tu D σ H') : tIfS t ts tu D σ H :=
  h F H (N - c) (.refl e) fa (s.le (by omega)) _ fun b F' H' g fa' s' p => by
    cases b with
    | true => exact k1 p F' H' g fa' s'
    | false => exact k2 p F' H' g fa' s'
/-- x, y = e, e a pair -/
theorem x_pairS {i j : Nat} {P : α × β → Prop} (h : EvS a c (rPr R S) te σ F H P) (e : ExT F H) (fa : F a = none) (s : Src H a N) (hc : c ≤ N)
    (k : ∀ v w x F' H', Gr (M1 a) F H F' H' → F' a = none → Src H' a (N - c) → P x → R F' v x.1 → S F' w x.2 → D.nx ((σ.set i (some v)).set j (some w)) H') : tAsg te (gTup K 2 (gCons (gName i) (gCons (gName j) gNil))) D σ H :=
  h F H (N - c) (.refl e) fa (s.le (by omega)) _ fun v x F' H' g fa' s' p ⟨b, u, w, eb, hb, r1, r2⟩ => by
    subst eb
    refine ⟨b, [u, w], rfl, SqT.of (g.fh _ _ hb), rfl, u, [w], rfl, w, [], rfl, rfl, ?_⟩
    exact k u w x F' H' g fa' s' p r1 r2
end
end El

set_option Elab.async false
set_option linter.all false
set_option maxHeartbeats 2000000
namespace El
variable [LawTabs]
/-! ### plain facts of maps and words -/
theorem uniq_const {c : Nat} : ∀ {l : List Nat}, (∀ x ∈ l, x = c) → l ≠ [] → uniq l = [c]
  | [], _, h => absurd rfl h
  | x :: l, h, _ => by
    have hx : x = c := h x List.mem_cons_self
    have hl : ∀ y ∈ l, y = c := fun y hy => h y (List.mem_cons_of_mem _ hy)
    show (if x ∈ uniq l then uniq l else x :: uniq l) = [c]
    by_cases hn : l = []
    · subst hn
      subst hx
      rfl
    · rw [uniq_const hl hn, if_pos (by rw [hx]; exact List.mem_singleton.mpr rfl)]
theorem metB_iff {l : List Nat} : metB l = true ↔ l ≠ [] ∧ ∃ c, ∀ x ∈ l, x = c := by
  constructor
  · intro h
    have h1 : (uniq l).length = 1 := of_decide_eq_true h
    obtain ⟨c, hc⟩ := List.length_eq_one_iff.mp h1
    refine ⟨fun e => ?_, c, fun x hx => ?_⟩
    · subst e; cases hc
    · have := mem_uniq.mpr hx
      rw [hc] at this
      exact List.mem_singleton.mp this
  · rintro ⟨h1, c, h2⟩
    unfold metB
    rw [uniq_const h2 h1]
    rfl
theorem metB_eq {l : List Nat} {x y : Nat} (h : metB l = true) (hx : x ∈ l) (hy : y ∈ l) : x = y := by
  obtain ⟨_, c, hc⟩ := metB_iff.mp h
  rw [hc x hx, hc y hy]
theorem metB_repl {n c : Nat} (h : 1 ≤ n) : metB (List.replicate n c) = true := metB_iff.mpr ⟨fun e => by have := congrArg List.length e; simp at this; omega, c, fun x hx => (List.mem_replicate.mp hx).2⟩
theorem isMap_repl {n c : Nat} {m : List Nat} (hm : IsMap n m) (h : ∀ x ∈ m, x = c) : m = List.replicate n c := by
  rw [List.eq_replicate_iff]
  exact ⟨hm.1, h⟩
theorem metB_const {n : Nat} {m : List Nat} (hm : IsMap n m) (h0 : 1 ≤ n) (h : metB m = true) : m = List.replicate n (m.headD 0) := by
  refine isMap_repl hm fun x hx => metB_eq h hx ?_
  cases m with
  | nil => have := hm.1; simp at this; omega
  | cons a m => exact List.mem_cons_self
theorem then_id {n : Nat} {m : List Nat} (h : IsMap n m) : thenM m (idMap n) = m := by
  unfold thenM idMap
  apply List.ext_getElem
  · rw [List.length_map]
  · intro i h1 h2
    rw [List.getElem_map, List.getD_eq_getElem?_getD, List.getElem?_range (h.2 _ (List.getElem_mem h2))]
    rfl
theorem id_then {n : Nat} {m : List Nat} (h : IsMap n m) : thenM (idMap n) m = m := by
  unfold thenM idMap
  apply List.ext_getElem
  · rw [List.length_map, List.length_range, h.1]
  · intro i h1 h2
    rw [List.getElem_map, List.getElem_range, List.getD_eq_getElem?_getD, List.getElem?_eq_getElem h2]
    rfl
theorem then_get {a b : List Nat} {x : Nat} (h : x < a.length) : (thenM a b).getD x 0 = b.getD (a.getD x 0) 0 := by
  unfold thenM
  rw [List.getD_eq_getElem?_getD, List.getElem?_map, List.getElem?_eq_getElem h, List.getD_eq_getElem?_getD (l := a), List.getElem?_eq_getElem h]
  rfl
theorem map_getD {b : List Nat} {f : Nat → Nat} {x : Nat} (h : x < b.length) : (b.map f).getD x 0 = f (b.getD x 0) := by
  rw [List.getD_eq_getElem?_getD, List.getElem?_map, List.getElem?_eq_getElem h, List.getD_eq_getElem?_getD, List.getElem?_eq_getElem h]
  rfl
theorem then_assoc {n : Nat} {a b c : List Nat} (ha : IsMap n a) (hb : IsMap n b) : thenM (thenM a b) c = thenM a (thenM b c) := by
  unfold thenM
  rw [List.map_map]
  refine List.map_congr_left fun x hx => ?_
  show c.getD (b.getD x 0) 0 = _
  rw [map_getD (by rw [hb.1]; exact ha.2 x hx)]
theorem then_const {n c : Nat} {a : List Nat} (ha : IsMap n a) : thenM a (List.replicate n c) = List.replicate n c := by
  rw [List.eq_replicate_iff]
  refine ⟨by unfold thenM; rw [List.length_map, ha.1], fun x hx => ?_⟩
  obtain ⟨y, hy, rfl⟩ := List.mem_map.mp hx
  rw [List.getD_eq_getElem?_getD, List.getElem?_replicate, if_pos (ha.2 y hy)]
  rfl
/-- a constant map, then another one -/
theorem const_then {n c : Nat} {b : List Nat} : thenM (List.replicate n c) b = List.replicate n (b.getD c 0) := by
  unfold thenM
  rw [List.map_replicate]
/-! words -/
theorem from_then {t : Tn} : ∀ {w : List Nat} {m : List Nat}, IsMap t.many m → (∀ s ∈ w, s < t.maps.length) → mapFrom t m w = thenM m (mapW t w)
  | [], m, hm, _ => (then_id hm).symm
  | s :: w, m, hm, hs => by
    have h1 := hs s List.mem_cons_self
    have h2 : ∀ s' ∈ w, s' < t.maps.length := fun s' h' => hs s' (List.mem_cons_of_mem _ h')
    show mapFrom t (thenM m (t.maps.getD s [])) w = thenM m (mapFrom t (thenM (idMap t.many) (t.maps.getD s [])) w)
    rw [id_then (t.isMap h1), from_then (isMap_then hm (t.isMap h1)) h2, from_then (t.isMap h1) h2, then_assoc hm (t.isMap h1)]
theorem mapW_app {t : Tn} {u v : List Nat} (hu : ∀ s ∈ u, s < t.maps.length) (hv : ∀ s ∈ v, s < t.maps.length) : mapW t (u ++ v) = thenM (mapW t u) (mapW t v) := by
  unfold mapW mapFrom
  rw [List.foldl_append]
  exact from_then (isMap_mapW hu) hv
theorem mapW_cons {t : Tn} {s : Nat} {v : List Nat} (h1 : s < t.maps.length) (hv : ∀ s ∈ v, s < t.maps.length) : mapW t (s :: v) = thenM (t.maps.getD s []) (mapW t v) := by
  show mapFrom t (thenM (idMap t.many) (t.maps.getD s [])) v = _
  rw [id_then (t.isMap h1), from_then (t.isMap h1) hv]
theorem mapW_one {t : Tn} {s : Nat} (h1 : s < t.maps.length) : mapW t [s] = t.maps.getD s [] := id_then (t.isMap h1)
/-! what is drawn: the first signs (the newest on) that meet -/
theorem drRun_snoc {t : Tn} {w : List Nat} {s : Nat} : drRun t (w ++ [s]) = drStep t (drRun t w) s := by
  unfold drRun
  rw [List.foldl_append]
  rfl
/-- the run: its map is that of its first signs, turned about; and it met no earlier -/
theorem drRun_spec {t : Tn} : ∀ (n : Nat) (w : List Nat), w.length = n → (∀ s ∈ w, s < t.maps.length) →
    (drRun t w).1 = mapW t (w.take (drRun t w).2).reverse ∧ (drRun t w).2 ≤ w.length ∧ (∀ j, j < (drRun t w).2 → metB (mapW t (w.take j).reverse) = false) ∧ ((drRun t w).2 = w.length ∨ metB (drRun t w).1 = true)
  | 0, w, hl, _ => by
    cases w with
    | nil => exact ⟨rfl, Nat.le_refl _, fun j hj => absurd hj (Nat.not_lt_zero _), .inl rfl⟩
    | cons a w => cases hl
  | n + 1, w, hl, hs => by
    obtain ⟨w', s, rfl⟩ : ∃ w' s, w = w' ++ [s] := ⟨w.dropLast, w.getLast (by intro e; subst e; cases hl), (List.dropLast_concat_getLast _).symm⟩
    have hl' : w'.length = n := by simpa using hl
    have h1 : ∀ s ∈ w', s < t.maps.length := fun s h => hs s (List.mem_append_left _ h)
    have h2 : s < t.maps.length := hs s (List.mem_append_right _ List.mem_cons_self)
    obtain ⟨i1, i2, i3, i4⟩ := drRun_spec n w' hl' h1
    rw [drRun_snoc]
    unfold drStep
    by_cases hm : metB (drRun t w').1 = true
    · rw [if_pos hm]
      refine ⟨?_, by rw [List.length_append]; omega, fun j hj => ?_, .inr hm⟩
      · rw [List.take_append_of_le_length i2]
        exact i1
      · rw [List.take_append_of_le_length (by omega)]
        exact i3 j hj
    · rw [if_neg hm]
      have e : (drRun t w').2 = w'.length := i4.resolve_right hm
      refine ⟨?_, by rw [List.length_append, e]; exact Nat.le_refl _, fun j hj => ?_, .inl (by rw [List.length_append, e]; rfl)⟩
      · rw [List.take_of_length_le (by rw [List.length_append, e]; exact Nat.le_refl _), List.reverse_append]
        show thenM (t.maps.getD s []) (drRun t w').1 = mapW t (s :: w'.reverse)
        rw [mapW_cons h2 (fun x hx => h1 x (List.mem_reverse.mp hx)), i1, e, List.take_length]
      · have hj' : j ≤ w'.length := by have : j < (drRun t w').2 + 1 := hj; omega
        rw [List.take_append_of_le_length hj']
        by_cases hj2 : j < w'.length
        · exact i3 j (by omega)
        · have : j = w'.length := by omega
          rw [this, List.take_length]
          have e2 := i1
          rw [e, List.take_length] at e2
          rw [← e2]
          simpa using hm
/-- the elder signs that are read behind the first that meet change nothing -/
theorem drawn_of_met {t : Tn} {w : List Nat} (hs : ∀ s ∈ w, s < t.maps.length) {j : Nat} (hj : j ≤ w.length) (hm : metB (mapW t (w.take j).reverse) = true) : ∃ u, u ≤ j ∧ drawnM t w = some ((mapW t w.reverse).headD 0, u) := by
  obtain ⟨h1, h2, h3, h4⟩ := drRun_spec w.length w rfl hs
  have hu : (drRun t w).2 ≤ j := by
    rcases Nat.lt_or_ge j (drRun t w).2 with h | h
    · rw [h3 j h] at hm; cases hm
    · exact h
  have t0 := t.h0
  have hm2 : metB (drRun t w).1 = true := by
    rcases h4 with h4 | h4
    · have : j = (drRun t w).2 := by omega
      rw [h1, ← this]; exact hm
    · exact h4
  have him : IsMap t.many (drRun t w).1 := isMap_run hs
  refine ⟨(drRun t w).2, hu, ?_⟩
  have ew : (mapW t w.reverse) = List.replicate t.many ((drRun t w).1.headD 0) := by
    have e : w.reverse = (w.drop (drRun t w).2).reverse ++ (w.take (drRun t w).2).reverse := by rw [← List.reverse_append, List.take_append_drop]
    have a1 : ∀ s ∈ (w.drop (drRun t w).2).reverse, s < t.maps.length := fun s h => hs s (List.mem_of_mem_drop (List.mem_reverse.mp h))
    have a2 : ∀ s ∈ (w.take (drRun t w).2).reverse, s < t.maps.length := fun s h => hs s (List.mem_of_mem_take (List.mem_reverse.mp h))
    rw [e, mapW_app a1 a2, ← h1, metB_const him t0 hm2, then_const (isMap_mapW a1)]
    cases hq : t.many with
    | zero => omega
    | succ k => rfl
  unfold drawnM plc
  rw [if_pos hm2]
  show some ((drRun t w).1.headD 0, _) = some ((mapW t w.reverse).headD 0, _)
  rw [ew]
  cases hq : t.many with
  | zero => omega
  | succ k => rfl
end El

set_option Elab.async false
set_option linter.all false
set_option maxHeartbeats 2000000
namespace El
variable [LawTabs]
def blkM (t : Tn) (n : Nat) (w : List Nat) (k : Nat) : List Nat := mapW t ((w.drop (k * n)).take n)
def meetM (t : Tn) (n : Nat) (w : List Nat) : List Nat := (List.range (w.length / n)).filter fun k => metB (blkM t n w k)
section
variable {t : Tn} {n : Nat} {w : List Nat}
theorem take_succ_blk (k : Nat) : w.take ((k + 1) * n) = w.take (k * n) ++ (w.drop (k * n)).take n := by
  rw [Nat.succ_mul, List.take_add]
theorem blk_ok (hs : ∀ s ∈ w, s < t.maps.length) (k : Nat) : ∀ s ∈ (w.drop (k * n)).take n, s < t.maps.length := fun s h => hs s (List.mem_of_mem_drop (List.mem_of_mem_take h))
theorem take_ok (hs : ∀ s ∈ w, s < t.maps.length) (k : Nat) : ∀ s ∈ w.take k, s < t.maps.length := fun s h => hs s (List.mem_of_mem_take h)
theorem map_succ (hs : ∀ s ∈ w, s < t.maps.length) (k : Nat) : mapW t (w.take ((k + 1) * n)) = thenM (mapW t (w.take (k * n))) (blkM t n w k) := by
  rw [take_succ_blk, mapW_app (take_ok hs _) (blk_ok hs k)]
  rfl
def roInv (t : Tn) (n : Nat) (w : List Nat) (k : Nat) : Option Nat → Prop
  | none => (List.range k).filter (fun k => metB (blkM t n w k)) = []
  | some s => ∃ i0, i0 < k ∧ (List.range k).filter (fun k => metB (blkM t n w k)) = [i0] ∧ mapW t (w.take (k * n)) = List.replicate t.many s ∧ metB (mapW t ((w.take (k * n)).drop (i0 * n))) = true
def roEnd (t : Tn) (n : Nat) (w : List Nat) (L : Nat) : Option (Nat × Nat) → Prop
  | none => ((List.range L).filter (fun k => metB (blkM t n w k))).length < 2
  | some (s, k) => ∃ i0 i1 rest, (List.range L).filter (fun k => metB (blkM t n w k)) = i0 :: i1 :: rest ∧ k = i1 + 1 ∧ i0 < i1 ∧ i1 < L ∧ mapW t (w.take (i1 * n)) = List.replicate t.many s ∧ metB (mapW t ((w.take (i1 * n)).drop (i0 * n))) = true
theorem roLoop_spec (hs : ∀ s ∈ w, s < t.maps.length) (L : Nat) (hL : L * n ≤ w.length) : ∀ (r k : Nat) (st : Option Nat), k + r = L → roInv t n w k st → roEnd t n w L (roLoop t n w r k st)
  | 0, k, st, hk, h => by
    have : k = L := by omega
    subst this
    show ((List.range k).filter (fun k => metB (blkM t n w k))).length < 2
    cases st with
    | none => rw [show (List.range k).filter _ = [] from h]; exact Nat.zero_lt_succ _
    | some s => obtain ⟨i0, _, e, _⟩ := h; rw [e]; exact Nat.lt_succ_self _
  | r + 1, k, none, hk, h => by
    have t0 := t.h0
    refine roLoop_spec hs L hL r (k + 1) _ (by omega) ?_
    have him : IsMap t.many (blkM t n w k) := isMap_mapW (blk_ok hs k)
    show roInv t n w (k + 1) (plc (blkM t n w k))
    unfold plc
    have e0 : (List.range k).filter (fun k => metB (blkM t n w k)) = [] := h
    by_cases hm : metB (blkM t n w k) = true
    · rw [if_pos hm]
      refine ⟨k, Nat.lt_succ_self k, ?_, ?_, ?_⟩
      · rw [List.range_succ, List.filter_append, e0, List.filter_cons, if_pos hm]
        rfl
      · rw [map_succ hs, metB_const him t0 hm, then_const (isMap_mapW (take_ok hs _))]
        cases hq : t.many with
        | zero => omega
        | succ k => rfl
      · rw [take_succ_blk]
        have hl : (w.take (k * n)).length = k * n := by
          rw [List.length_take]
          have : k * n ≤ L * n := Nat.mul_le_mul_right _ (by omega)
          omega
        rw [List.drop_append_of_le_length (by omega), List.drop_of_length_le (by omega)]
        exact hm
    · rw [if_neg hm]
      show (List.range (k + 1)).filter _ = []
      rw [List.range_succ, List.filter_append, e0, List.filter_cons, if_neg hm]
      rfl
  | r + 1, k, some s, hk, h => by
    have t0 := t.h0
    have him : IsMap t.many (blkM t n w k) := isMap_mapW (blk_ok hs k)
    obtain ⟨i0, hi, e0, e1, e2⟩ := h
    show roEnd t n w L (if metB (blkM t n w k) = true then some (s, k + 1) else roLoop t n w r (k + 1) (some ((blkM t n w k).getD s 0)))
    by_cases hm : metB (blkM t n w k) = true
    · rw [if_pos hm]
      refine ⟨i0, k, (List.range' (k + 1) r).filter (fun k => metB (blkM t n w k)), ?_, rfl, hi, by omega, e1, e2⟩
      have : List.range L = List.range k ++ (k :: List.range' (k + 1) r) := by
        rw [← hk, List.range_eq_range', List.range_eq_range', ← List.range'_append_1, Nat.zero_add]
        rfl
      rw [this, List.filter_append, e0, List.filter_cons, if_pos hm]
      rfl
    · rw [if_neg hm]
      refine roLoop_spec hs L hL r (k + 1) _ (by omega) ⟨i0, by omega, ?_, ?_, ?_⟩
      · rw [List.range_succ, List.filter_append, e0, List.filter_cons, if_neg hm]
        rfl
      · rw [map_succ hs, e1, const_then]
      · have hl : (w.take (k * n)).length = k * n := by
          rw [List.length_take]
          have : k * n ≤ L * n := Nat.mul_le_mul_right _ (by omega)
          omega
        have hi2 : i0 * n ≤ k * n := Nat.mul_le_mul_right _ (by omega)
        rw [take_succ_blk, List.drop_append_of_le_length (by omega), mapW_app (fun s h => take_ok hs _ s (List.mem_of_mem_drop h)) (blk_ok hs k)]
        rw [metB_const (isMap_mapW (fun s h => take_ok hs _ s (List.mem_of_mem_drop h))) t0 e2, const_then]
        exact metB_repl t0
/-- the whole of the law -/
theorem once_law (hs : ∀ s ∈ w, s < t.maps.length) : match readOnceM t n w with
    | none => (meetM t n w).length < 2
    | some (s, k) => ∃ i0 i1 rest, meetM t n w = i0 :: i1 :: rest ∧ k = i1 + 1 ∧ i0 < i1 ∧ i1 * n ≤ w.length ∧ mapW t (w.take (i1 * n)) = List.replicate t.many s ∧ ∃ u, drawnM t (w.take (i1 * n)).reverse = some (s, u) ∧ u ≤ (i1 - i0) * n := by
  have t0 := t.h0
  have h := roLoop_spec (n := n) hs (w.length / n) (Nat.div_mul_le_self _ _) (w.length / n) 0 none (by omega) rfl
  unfold readOnceM
  revert h
  cases roLoop t n w (w.length / n) 0 none with
  | none => exact fun h => h
  | some p =>
    obtain ⟨s, k⟩ := p
    rintro ⟨i0, i1, rest, e1, e2, e3, e4, e5, e6⟩
    have hle : i1 * n ≤ w.length := Nat.le_trans (Nat.mul_le_mul_right n (Nat.le_of_lt e4)) (Nat.div_mul_le_self _ _)
    have hlen : (w.take (i1 * n)).length = i1 * n := by rw [List.length_take]; omega
    have hi : i0 * n ≤ i1 * n := Nat.mul_le_mul_right _ (by omega)
    have hj : i1 * n - (i1 - i0) * n = i0 * n := by rw [← Nat.sub_mul, show i1 - (i1 - i0) = i0 by omega]
    have hjl : (i1 - i0) * n ≤ i1 * n := Nat.mul_le_mul_right _ (by omega)
    obtain ⟨u, hu, hd⟩ := drawn_of_met (t := t) (w := (w.take (i1 * n)).reverse) (fun s h => take_ok hs _ s (List.mem_reverse.mp h)) (j := (i1 - i0) * n) (by rw [List.length_reverse]; omega) (by
      rw [List.take_reverse, List.reverse_reverse, hlen, hj]
      exact e6)
    refine ⟨i0, i1, rest, e1, e2, e3, hle, e5, u, ?_, hu⟩
    rw [hd, List.reverse_reverse, e5]
    cases hq : t.many with
    | zero => omega
    | succ k => rfl
end
end El

set_option Elab.async false
set_option linter.all false
set_option maxRecDepth 100000
set_option maxHeartbeats 2000000
namespace El
open PySem PySem.Spec L2
variable [LawTabs]
/-! ### == of data -/
class Dt {α : Type} (R : Rp α) where
  data : α → PyData
  rep : ∀ {K : PySem.W.Frag} {F H : Hp} {v : V} {x : α}, Ex F H → R F v x → Dp K H v (data x)
  lay : ∀ x, (data x).canLay0 = true
  dep : Nat
  depth : ∀ x, (data x).depth ≤ dep
  eqv : ∀ x y, PyData.eqv (data x) (data y) = true ↔ x = y
instance : Dt rInt where
  data := .int
  rep := fun e r => by cases (show _ = _ from r); exact .int _
  lay := fun _ => rfl
  dep := 0
  depth := fun _ => Nat.le_refl _
  eqv := fun x y => by show (x == y) = true ↔ x = y; exact beq_iff_eq
instance : Dt rNat where
  data := fun n => .int (n : Int)
  rep := fun e r => by cases (show _ = _ from r); exact .int _
  lay := fun _ => rfl
  dep := 0
  depth := fun _ => Nat.le_refl _
  eqv := fun x y => by show ((x : Int) == (y : Int)) = true ↔ x = y; rw [beq_iff_eq]; omega
instance : Dt rBl where
  data := .bool
  rep := fun e r => by cases (show _ = _ from r); exact .bl _
  lay := fun _ => rfl
  dep := 0
  depth := fun _ => Nat.le_refl _
  eqv := fun x y => by show (x == y) = true ↔ x = y; exact beq_iff_eq
theorem dpAll {α : Type} {R : Rp α} [d : Dt R] {K : PySem.W.Frag} {F H : Hp} (e : Ex F H) : ∀ {vs : List V} {xs : List α}, Paired (R F) vs xs → DpAll K H vs (xs.map d.data)
  | _, _, .nil => .nil
  | _, _, .cons r t => .cons (d.rep e r) (dpAll e t)
theorem layAll {α : Type} {R : Rp α} [d : Dt R] : ∀ xs : List α, PyData.canLayAll0 (xs.map d.data) = true
  | [] => rfl
  | x :: xs => by
    show (PyData.canLay0 (d.data x) && PyData.canLayAll0 (xs.map d.data)) = true
    rw [d.lay x, layAll xs]
    rfl
theorem depAll {α : Type} {R : Rp α} [d : Dt R] : ∀ xs : List α, PyData.depthAll (xs.map d.data) ≤ d.dep
  | [] => Nat.zero_le _
  | x :: xs => by
    show max (PyData.depth (d.data x)) (PyData.depthAll (xs.map d.data)) ≤ _
    exact Nat.max_le.mpr ⟨d.depth x, depAll xs⟩
theorem eqvAllD {α : Type} {R : Rp α} [d : Dt R] : ∀ xs ys : List α, PyData.eqvAll (xs.map d.data) (ys.map d.data) = true ↔ xs = ys
  | [], [] => by simp [PyData.eqvAll]
  | x :: xs, [] => by simp [PyData.eqvAll]
  | [], y :: ys => by simp [PyData.eqvAll]
  | x :: xs, y :: ys => by
    show (PyData.eqv (d.data x) (d.data y) && PyData.eqvAll (xs.map d.data) (ys.map d.data)) = true ↔ _
    rw [Bool.and_eq_true, d.eqv, eqvAllD xs ys, List.cons.injEq]
instance {α : Type} {R : Rp α} [d : Dt R] : Dt (rLst R) where
  data := fun xs => .list (xs.map d.data)
  rep := fun e ⟨a, vs, h1, h2, h3⟩ => by subst h1; exact .lst (SqL.of (e _ _ h2)) (dpAll e h3)
  lay := fun xs => by show PyData.canLayAll0 _ = true; exact layAll xs
  dep := d.dep + 1
  depth := fun xs => by show PyData.depthAll _ + 1 ≤ _; exact Nat.succ_le_succ (depAll xs)
  eqv := fun xs ys => by show PyData.eqvAll _ _ = true ↔ _; exact eqvAllD xs ys
instance {α : Type} {R : Rp α} [d : Dt R] : Dt (rTup R) where
  data := fun xs => .tuple (xs.map d.data)
  rep := fun e ⟨a, vs, h1, h2, h3⟩ => by subst h1; exact .tup (SqT.of (e _ _ h2)) (dpAll e h3)
  lay := fun xs => by show PyData.canLayAll0 _ = true; exact layAll xs
  dep := d.dep + 1
  depth := fun xs => by show PyData.depthAll _ + 1 ≤ _; exact Nat.succ_le_succ (depAll xs)
  eqv := fun xs ys => by show PyData.eqvAll _ _ = true ↔ _; exact eqvAllD xs ys
instance {α β : Type} {R : Rp α} {S : Rp β} [d : Dt R] [f : Dt S] : Dt (rPr R S) where
  data := fun p => .tuple [d.data p.1, f.data p.2]
  rep := fun e ⟨a, x, y, h1, h2, h3, h4⟩ => by subst h1; exact .tup (SqT.of (e _ _ h2)) (.cons (d.rep e h3) (.cons (f.rep e h4) .nil))
  lay := fun p => by
    show (PyData.canLay0 _ && (PyData.canLay0 _ && true)) = true
    rw [d.lay, f.lay]
    rfl
  dep := max d.dep f.dep + 1
  depth := fun p => by
    show max (PyData.depth (d.data p.1)) (max (PyData.depth (f.data p.2)) 0) + 1 ≤ _
    have := d.depth p.1
    have := f.depth p.2
    omega
  eqv := fun p q => by
    show (PyData.eqv _ _ && (PyData.eqv _ _ && true)) = true ↔ _
    rw [Bool.and_true, Bool.and_eq_true, d.eqv, f.eqv, Prod.ext_iff]
class NotNoneD {α : Type} (R : Rp α) [d : Dt R] : Prop where
  nn : ∀ x, d.data x ≠ .none
instance : NotNoneD rInt := ⟨fun _ => fun z => nomatch z⟩
instance : NotNoneD rNat := ⟨fun _ => fun z => nomatch z⟩
instance : NotNoneD rBl := ⟨fun _ => fun z => nomatch z⟩
instance {α : Type} {R : Rp α} [d : Dt R] : NotNoneD (rLst R) := ⟨fun _ => fun z => nomatch z⟩
instance {α : Type} {R : Rp α} [d : Dt R] : NotNoneD (rTup R) := ⟨fun _ => fun z => nomatch z⟩
instance {α β : Type} {R : Rp α} {S : Rp β} [d : Dt R] [f : Dt S] : NotNoneD (rPr R S) := ⟨fun _ => fun z => nomatch z⟩
theorem eqv_none {d : PyData} (h : d ≠ .none) : PyData.eqv .none d = false ∧ PyData.eqv d .none = false := by
  cases d with
  | none => exact absurd rfl h
  | bool _ => exact ⟨rfl, rfl⟩
  | int _ => exact ⟨rfl, rfl⟩
  | str _ => exact ⟨rfl, rfl⟩
  | list _ => exact ⟨rfl, rfl⟩
  | tuple _ => exact ⟨rfl, rfl⟩
  | dict _ => exact ⟨rfl, rfl⟩
instance {α : Type} {R : Rp α} [d : Dt R] [n : NotNoneD R] : Dt (rOpt R) where
  data := fun x => match x with
    | none => .none
    | some y => d.data y
  rep := fun {K F H v x} e r => by
    cases x with
    | none => cases (show _ = _ from r); exact .non
    | some y => exact d.rep e r
  lay := fun x => by
    cases x with
    | none => rfl
    | some y => exact d.lay y
  dep := d.dep
  depth := fun x => by
    cases x with
    | none => exact Nat.zero_le _
    | some y => exact d.depth y
  eqv := fun x y => by
    cases x with
    | none =>
      cases y with
      | none => exact ⟨fun _ => rfl, fun _ => rfl⟩
      | some y => exact ⟨(fun h => by rw [(eqv_none (n.nn y)).1] at h; exact Bool.noConfusion h), (fun h => nomatch h)⟩
    | some x =>
      cases y with
      | none => exact ⟨(fun h => by rw [(eqv_none (n.nn x)).2] at h; exact Bool.noConfusion h), (fun h => nomatch h)⟩
      | some y => exact (d.eqv x y).trans ⟨fun h => by rw [h], fun h => Option.some.inj h⟩
section
variable {K : PySem.W.Frag} {σ : St} {F H F' H' : Hp} {ta tb tc te tl : TE} {α β : Type} {R : Rp α} {S : Rp β} {x y : α} {xs : List α}
theorem shapedD (d : Dt R) (h : d.dep ≤ 64) (x : α) : SeqAt.shaped (d.data x) = true := by
  show (PyData.canLay0 _ && decide _) = true
  rw [d.lay, decide_eq_true (Nat.le_trans (d.depth x) h)]
  rfl
theorem ev_eqD [DecidableEq α] (ha : Ev R ta σ F H x) (hb : Ev R tb σ F H y) (d : Dt R := by infer_instance) (m : Mn R := by infer_instance) (h : d.dep ≤ 64 := by exact Nat.le_of_ble_eq_true rfl) : Ev rBl (tOp (rEqD K) ta tb) σ F H (decide (x = y)) := fun F1 H1 g1 Q q =>
  ha F1 H1 g1 _ fun v F2 H2 g2 r => hb F2 H2 (g1.trans g2) _ fun w F3 H3 g3 r3 => ⟨d.data x, d.data y, d.rep g3.fh.ex (m.mono g3.ff r), d.rep g3.fh.ex r3, shapedD d h x, shapedD d h y, by
    have e : PyData.eqv (d.data x) (d.data y) = decide (x = y) := by
      by_cases z : x = y
      · rw [decide_eq_true z]; exact (d.eqv x y).mpr z
      · rw [decide_eq_false z]
        cases q : PyData.eqv (d.data x) (d.data y) with
        | false => rfl
        | true => exact absurd ((d.eqv x y).mp q) z
    rw [e]
    exact q _ F3 H3 (g2.trans g3) rfl⟩
theorem ev_neD [DecidableEq α] (ha : Ev R ta σ F H x) (hb : Ev R tb σ F H y) (d : Dt R := by infer_instance) (m : Mn R := by infer_instance) (h : d.dep ≤ 64 := by exact Nat.le_of_ble_eq_true rfl) : Ev rBl (tOp (rNeD K) ta tb) σ F H (!decide (x = y)) := fun F1 H1 g1 Q q =>
  ha F1 H1 g1 _ fun v F2 H2 g2 r => hb F2 H2 (g1.trans g2) _ fun w F3 H3 g3 r3 => ⟨d.data x, d.data y, d.rep g3.fh.ex (m.mono g3.ff r), d.rep g3.fh.ex r3, shapedD d h x, shapedD d h y, by
    have e : PyData.eqv (d.data x) (d.data y) = decide (x = y) := by
      by_cases z : x = y
      · rw [decide_eq_true z]; exact (d.eqv x y).mpr z
      · rw [decide_eq_false z]
        cases q : PyData.eqv (d.data x) (d.data y) with
        | false => rfl
        | true => exact absurd ((d.eqv x y).mp q) z
    rw [e]
    exact q _ F3 H3 (g2.trans g3) rfl⟩
theorem ev_neB {a b : Bool} (ha : Ev rBl ta σ F H a) (hb : Ev rBl tb σ F H b) : Ev rBl (tOp rNe ta tb) σ F H (!decide (a = b)) := fun F1 H1 g1 Q q =>
  ha F1 H1 g1 _ fun v F2 H2 g2 r => hb F2 H2 (g1.trans g2) _ fun w F3 H3 g3 r2 => by
    cases (show v = V.bl a from r)
    cases (show w = V.bl b from r2)
    refine ⟨rfl, ?_⟩
    have e : decide (V.bl a = V.bl b) = decide (a = b) := by simp
    rw [e]
    exact q _ F3 H3 (g2.trans g3) rfl
theorem ev_eqB {a b : Bool} (ha : Ev rBl ta σ F H a) (hb : Ev rBl tb σ F H b) : Ev rBl (tOp rEq ta tb) σ F H (decide (a = b)) := fun F1 H1 g1 Q q =>
  ha F1 H1 g1 _ fun v F2 H2 g2 r => hb F2 H2 (g1.trans g2) _ fun w F3 H3 g3 r2 => by
    cases (show v = V.bl a from r)
    cases (show w = V.bl b from r2)
    refine ⟨rfl, ?_⟩
    have e : decide (V.bl a = V.bl b) = decide (a = b) := by simp
    rw [e]
    exact q _ F3 H3 (g2.trans g3) rfl
/-- x == y of options of ints -/
theorem krev {X : Cx} (K : PySem.W.Frag) {e : Expr} {te : TE} {k : Nat} {p1 p2 p3 pos : Pos} (he : PE X e te) (hK : X.K = K := by rfl) : PE X (.Subscript e (.Slice none none (some (.UnaryOp .USub (.Constant (.int 1) k p1) p2)) p3) pos) (tRevL K te) := by
  subst hK
  exact pe_revL he
theorem ev_rev (ha : Ev (rLst R) ta σ F H xs) (m : Mn R := by infer_instance) : Ev (rLst R) (tRevL K ta) σ F H xs.reverse := fun F1 H1 g1 Q q =>
  ha F1 H1 g1 _ fun v F2 H2 g2 ⟨a, vs, e, hl, p⟩ => ⟨a, vs, e, SqL.of (g2.fh _ _ hl), fun D hD => q _ _ _ (g2.trans (.new g2.fh hD)) ⟨D, _, rfl, upd_same, Paired.rev (Paired.up (Gr.new (M := M0) g2.fh hD).ff p)⟩⟩
/-- the script's items -/
theorem Ex.seq {K : PySem.W.Frag} {H H' : Hp} {a : Addr} {xs : List V} (e : Ex H H') (h : SqL K H a xs) : SqL K H' a xs := by
  rcases h with (h | ⟨o, h⟩) | h
  · exact .inl (.inl (e _ _ h))
  · exact .inl (.inr ⟨o, e _ _ h⟩)
  · exact .inr h
theorem Gr.seq {K : PySem.W.Frag} {F H F' H' : Hp} {a : Addr} {xs : List V} (e : Gr M0 F H F' H') (h : SqL K H a xs) : SqL K H' a xs := by
  rcases h with (h | ⟨o, h⟩) | h
  · exact .inl (.inl (e.hx _ _ h))
  · exact .inl (.inr ⟨o, e.hx _ _ h⟩)
  · exact .inr h
theorem ev_script {a : Addr} {ns : List Int} {n : Nat} (ha : Ev rRef te σ F H a) (h : SqL K H a (ns.map V.int)) : Ev (rLst rInt) (tSl (rSlL K) te tNoPart (tPart (tC (.int (n : Int))))) σ F H (ns.take n) := fun F1 H1 g1 Q q =>
  ha F1 H1 g1 _ fun v F2 H2 g2 e => ⟨(n : Int), rfl, a, ns.map V.int, e, (g1.trans g2).seq h, fun D hD => q _ _ _ (g2.trans (.new g2.fh hD)) ⟨D, _, rfl, upd_same, by
    rw [← cut_to]
    exact cut_paired (paired_ints ns)⟩⟩
end
theorem gsx {M : Addr → Prop} {F0 H0 F H F' H' : Hp} (g : Gr M0 F0 H0 F H) (g2 : Gr M F H F' H') (n : ∀ b, M b → H0 b = none) : Gr M0 F0 H0 F' H' := g.seq0 g2 n
end El

set_option Elab.async false
set_option linter.all false
set_option maxRecDepth 100000
set_option maxHeartbeats 4000000
namespace El
open PySem PySem.Spec L2
variable [LawTabs]
/-! ### tuple * 1 and more -/
theorem tuple_mul1 (l : Addr) (items : Array Value) (n : Nat) (dd : Option Addr) (sl : Array (Option Value)) (u : Tok) (hl0 : items.isEmpty = false) :
    Meets (Builtin.«tuple.__mul__» ⟨[.ref l, .int 1 u], []⟩) (fun _ R s => s.heap.get? l = some { cls := .type "tuple", dict := dd, data := .seq items n, slots := sl } ∧
      R (.ok (.ret (Value.ref l))) s) :=
  .of_wp fun prog w A R s h => by
    obtain ⟨hp, g, d, tk, os⟩ := s
    obtain ⟨hl, h⟩ := h
    have f1 := AutoSeq1.idx_int
    wp_walk using wpAny_loadPart' hl
    repeat (first
      | (refine wpAny_ite_false (decide_eq_false (by decide)) ?_; wp_walk using wpAny_loadPart' hl)
      | (refine wpAny_ite_true (decide_eq_true (by rw [hl0]; rfl)) ?_; wp_walk using wpAny_loadPart' hl))
    exact ⟨_, rfl, h⟩

def rRepU (K : PySem.W.Frag) : R2 := fun x y H Q => ∃ l k xs, x = .ref l ∧ y = .int k ∧ SqT K H l xs ∧ xs ≠ [] ∧ 1 ≤ k ∧ k ≤ 1000 ∧ xs.length ≤ 1000 ∧ (k = 1 → Q x H) ∧ ∀ p, H p = none → Q (.ref p) (upd H p (.tup (List.replicate k.toNat xs).flatten))
theorem op_repU {X : Cx} : OpR X (binaryOp .Mult) (rRepU X.K) := by
  intro pins s σ H x y v u Q I rx ry h
  obtain ⟨l, k, xs, rfl, rfl, hT, hne, h1, h2, hz, q1, q⟩ := h
  by_cases hk : k = 1
  · subst hk
    have rx' := rx
    cases rx'
    obtain ⟨t, rfl⟩ := ry
    obtain ⟨its, r, ⟨⟨cls, dd, data, sl⟩, ho, hc, n, hd⟩, hs⟩ := I.tuple hT
    simp only at hc hd
    subst hc hd
    have hle : its.length = xs.length := r.length.symm
    have hi : its.toArray.isEmpty = false := by
      cases its with
      | nil => exact absurd (List.eq_nil_of_length_eq_zero hle.symm) hne
      | cons a b => rfl
    refine wpAny_binaryOp_repeat_ref (T := "tuple") (U := "int") (by decide) ⟨_, ho, rfl⟩ (fun s' => typeIs_int s' 1 t) noFill_tuple_mul F.fills_int_mul F.slot_int_rmul repeat_tuple F.slot_int_index.lookup
      (call_meets F.slot_int_rmul (typeIs_int s 1 t) F.entry_int_rmul (F.args_int_rmul_2 _ _) (int_rmul_tuple 1 t l its.toArray n dd sl)
        ⟨ho, rfl, ⟨_, ho, rfl⟩, call_meets F.slot_tuple_mul ⟨_, ho, rfl⟩ F.entry_tuple_mul (F.args_tuple_mul_2 _ _) (tuple_mul1 l its.toArray n dd sl t hi) ⟨ho, ?_⟩⟩)
    exact ⟨.ref l, H, I, rfl, q1 rfl⟩
  · exact op_repT pins s σ H (.ref l) (.int k) v u Q I rx ry ⟨l, k, xs, rfl, rfl, hT, hne, by omega, h2, hz, q⟩

/-! ### texts -/
def num (n : Nat) : Str := Str.ofString (toString ((n : Nat) : Int))
theorem tl_numE (n : Nat) : TL.tl (num n) = TL.numL n := TL.tl_num n
/-- the text of a number -/
def rNum : Rp Nat := fun _ v n => v = .str (num n)
instance : Mn rNum := ⟨fun _ h => h⟩
section
variable {K : PySem.W.Frag} {σ : St} {F H F' H' : Hp} {ta tb tc te tl to : TE} {α β γ : Type} {R : Rp α} {S : Rp β} {x : α} {y : β} {xs : List α} {ys : List β} {a b z : Str} {D : Ends} {ts : TS}
theorem ev_strN {n : Nat} (ha : Ev rInt ta σ F H (n : Int)) (hn : n < 1000000) : Ev rNum (tCB (fun xs H Q => ∃ i : Int, xs = [.int i] ∧ i.natAbs.log2 < 1920 ∧ Q (.str (toString i)) H) (tCons ta tNil)) σ F H n := fun F1 H1 g1 Q q =>
  ha F1 H1 g1 _ fun v F2 H2 g2 r => ⟨(n : Int), by rw [show v = _ from r], by
    rw [Int.natAbs_natCast]
    have : n.log2 ≤ n := by
      rw [Nat.log2_def]
      split
      · have := Nat.log2_lt (n := n / 2) (k := n) (by omega)
        by_cases h : n / 2 = 0
        · rw [h]; omega
        · have := (Nat.log2_lt (n := n / 2) (k := n / 2) h).mpr Nat.lt_two_pow_self
          omega
      · omega
    have h2 : n.log2 < 20 := by
      by_cases h : n = 0
      · subst h; decide
      · exact (Nat.log2_lt h).mpr (Nat.lt_of_lt_of_le hn (by decide))
    omega, q _ F2 H2 g2 rfl⟩
theorem Ev.str {n : Nat} (h : Ev rNum ta σ F H n) : Ev rStr ta σ F H (num n) := h
theorem Ev.num {n : Nat} (h : Ev rStr ta σ F H (num n)) : Ev rNum ta σ F H n := h
abbrev rJoinS (K : PySem.W.Frag) : V → List V → Hp → VK → Prop := fun x xs H Q => ∃ a p, ∃ ys : List Str, x = .str a ∧ xs = [.ref p] ∧ (SqL K H p (ys.map V.str) ∨ SqT K H p (ys.map V.str)) ∧ (ys.map (·.length)).sum + ys.length * a.length ≤ 16777216 ∧ Q (.str (Txt.join a ys)) H
theorem ev_join {ys : List Str} (ha : Ev rStr to σ F H a) (hb : Ev (rLst rStr) te σ F H ys) (hz : (ys.map (·.length)).sum + ys.length * a.length ≤ 16777216) : Ev rStr (tM1 (rJoinS K) to te) σ F H (Txt.join a ys) := fun F1 H1 g1 Q q =>
  ha F1 H1 g1 _ fun v F2 H2 g2 r => ⟨⟨a, r⟩, hb F2 H2 (g1.trans g2) _ fun w F3 H3 g3 ⟨p, vs, e, hp, pr⟩ => ⟨a, p, ys, r, by rw [e], .inl (by rw [← strs_paired pr]; exact SqL.of (g3.fh _ _ hp)), hz, q _ F3 H3 (g2.trans g3) rfl⟩⟩
theorem paired_strs {H : Hp} : ∀ ns : List Str, Paired (rStr H) (ns.map V.str) ns
  | [] => .nil
  | n :: ns => .cons rfl (paired_strs ns)
theorem ev_joinM {p : Addr} {ys : List Str} (ha : Ev rStr to σ F H a) (hb : Ev rRef te σ F H p) (hp : H p = some (.lst (ys.map V.str))) (hz : (ys.map (·.length)).sum + ys.length * a.length ≤ 16777216) : Ev rStr (tM1 (rJoinS K) to te) σ F H (Txt.join a ys) := fun F1 H1 g1 Q q =>
  ha F1 H1 g1 _ fun v F2 H2 g2 r => ⟨⟨a, r⟩, hb F2 H2 (g1.trans g2) _ fun w F3 H3 g3 e => ⟨a, p, ys, r, by rw [show w = _ from e], .inl (SqL.of (g3.hx _ _ (g2.hx _ _ (g1.hx _ _ hp)))), hz, q _ F3 H3 (g2.trans g3) rfl⟩⟩
theorem ev_split (ha : Ev rStr to σ F H a) (hb : Ev rStr te σ F H b) (h0 : (b.length == 0) = false) (hz : a.length + 2 ≤ sizeLine) : Ev (rLst rStr) (tM1 (fun x xs H Q => ∃ a b, x = .str a ∧ xs = [.str b] ∧ (b.length == 0) = false ∧ a.length + 2 ≤ sizeLine ∧ rNewStrs (Txt.split a b) H Q) to te) σ F H (Txt.split a b) := fun F1 H1 g1 Q q =>
  ha F1 H1 g1 _ fun v F2 H2 g2 r => ⟨⟨a, r⟩, hb F2 H2 (g1.trans g2) _ fun w F3 H3 g3 e => ⟨a, b, r, by rw [show w = _ from e], h0, hz, fun p hp => q _ _ _ ((g2.trans g3).trans (.new g3.fh hp)) ⟨p, _, rfl, upd_same, paired_strs _⟩⟩⟩
theorem ev_intS {n : Int} (ha : Ev rStr ta σ F H a) (hn : PySem.intText? a = some n) (hz : a.length ≤ 640) : Ev rInt (tCB (fun xs H Q => ∃ a n, xs = [.str a] ∧ PySem.intText? a = some n ∧ a.length ≤ 640 ∧ Q (.int n) H) (tCons ta tNil)) σ F H n := fun F1 H1 g1 Q q =>
  ha F1 H1 g1 _ fun v F2 H2 g2 r => ⟨a, n, by rw [show v = _ from r], hn, hz, q _ F2 H2 g2 rfl⟩
theorem ev_inSign {c : Nat} (ha : Ev rStr ta σ F H ⟨#[c]⟩) (hb : Ev rStr tb σ F H z) : Ev rBl (tOp (fun x y H Q => ∃ (c : Nat) (z : Str), x = .str ⟨#[c]⟩ ∧ y = .str z ∧ Q (.bl (decide (c ∈ z.cps.toList))) H) ta tb) σ F H (decide (c ∈ z.cps.toList)) := fun F1 H1 g1 Q q =>
  ha F1 H1 g1 _ fun v F2 H2 g2 r => hb F2 H2 (g1.trans g2) _ fun w F3 H3 g3 e => ⟨c, z, r, e, q _ F3 H3 (g2.trans g3) rfl⟩
theorem ev_ixS {i : Int} {c : Nat} (ha : Ev rStr ta σ F H z) (hb : Ev rInt tb σ F H i) (hz : z.length ≤ sizeLine) (hi : atI z.cps.toList i = some c) : Ev rStr (tOp rIxS ta tb) σ F H ⟨#[c]⟩ := fun F1 H1 g1 Q q =>
  ha F1 H1 g1 _ fun v F2 H2 g2 r => hb F2 H2 (g1.trans g2) _ fun w F3 H3 g3 e => ⟨z, i, c, r, e, hz, hi, q _ F3 H3 (g2.trans g3) rfl⟩
/-- [elt for sign in text] -/
theorem ev_lcS {n : Nat} {vs : List Nat} (h : Ev rStr tl σ F H z) (hlen : ys.length = z.cps.size) (hz : z.cps.size ≤ 1000000) (hw : ∀ v, wipe ((wipe σ vs).set n (some v)) vs = wipe σ vs)
    (he : ∀ (i : Nat) c y F1 H1, z.cps[i]? = some c → ys[i]? = some y → Gr M0 F H F1 H1 → Ev S te ((wipe σ vs).set n (some (.str ⟨#[c]⟩))) F1 H1 y) (m' : Mn S := by infer_instance) : Ev (rLst S) (tLc (iStr tl) (gName n) tYes te vs) σ F H ys := by
  intro F1 H1 g1 Q q
  refine h F1 H1 g1 _ fun v F2 H2 g2 ea => ⟨z, ea, fun D hD => ?_⟩
  refine lc_it walk_str (fun i H' => ∃ F' us, Gr M0 F2 H2 F' H' ∧ F' D = none ∧ H' D = some (.lst us) ∧ Paired (S F') us (ys.take i)) ⟨F2, [], .loc g2.fh hD, g2.fh.free hD, upd_same, .nil⟩ (fun _ _ _ _ => trivial) ?_ ?_
  · rintro i w H' H0 hi ⟨F', us, g, fD, hD', pu⟩ ⟨eq, c, hc, rfl⟩
    obtain rfl : H' = H0 := eq.symm
    have hil : i < ys.length := by rw [hlen]; exact hi
    have hy : ys[i]? = some ys[i] := List.getElem?_eq_getElem hil
    refine ⟨hw _, ?_⟩
    refine he i c ys[i] F' H' hc hy ((g1.trans g2).trans g) F' H' (.refl g.fh) _ fun u F3 H3 g3 r3 => ?_
    refine ⟨us, g3.hx _ _ hD', ?_, F3, us ++ [u], (g.trans g3).set' (g3.nn hD' fD) (.inl hD), g3.nn hD' fD, upd_same, ?_⟩
    · rw [pu.length, List.length_take, sizeLine_eq]
      omega
    · rw [List.take_add_one, hy]
      exact (Paired.up g3.ff pu).snoc r3
  · rintro H' ⟨F', us, g, fD, hD', pu⟩
    rw [← hlen, List.take_length] at pu
    exact q _ _ _ (g2.trans (g.frz hD' (g2.fh.free hD) (.inl hD))) ⟨D, us, rfl, upd_same, Paired.up (g.fh.frz hD' fD) pu⟩
/-- tuple * n -/
theorem ev_repU {n : Int} (ha : Ev (rTup R) ta σ F H [x]) (hb : Ev rInt tb σ F H n) (h1 : 1 ≤ n) (h2 : n ≤ 1000) (m : Mn R := by infer_instance) : Ev (rTup R) (tOp (rRepU K) ta tb) σ F H (List.replicate n.toNat x) := fun F1 H1 g1 Q q =>
  ha F1 H1 g1 _ fun v F2 H2 g2 ⟨a, vs, e, hl, p⟩ => hb F2 H2 (g1.trans g2) _ fun w F3 H3 g3 e2 => by
    cases p with
    | cons r p =>
      cases p
      rename_i y
      refine ⟨a, n, [y], e, e2, SqT.of (g3.fh _ _ (g3.ff _ _ hl)), by simp, h1, h2, by simp, fun hn => ?_, fun D hD => ?_⟩
      · subst hn
        exact q _ F3 H3 (g2.trans g3) ⟨a, [y], e, g3.ff _ _ hl, .cons (m.mono g3.ff r) .nil⟩
      · have g4 : Gr M0 F3 H3 (upd F3 D (.tup (List.replicate n.toNat [y]).flatten)) (upd H3 D (.tup (List.replicate n.toNat [y]).flatten)) := .new g3.fh hD
        refine q _ _ _ ((g2.trans g3).trans g4) ⟨D, _, rfl, upd_same, ?_⟩
        have : ∀ k : Nat, Paired (R (upd F3 D (.tup (List.replicate n.toNat [y]).flatten))) (List.replicate k [y]).flatten (List.replicate k x) := fun k => by
          induction k with
          | zero => exact .nil
          | succ k ih =>
            rw [List.replicate_succ, List.replicate_succ, List.flatten_cons]
            exact .cons (m.mono (g3.ff.trans g4.ff) r) ih
        exact this _
/-- min of two -/
theorem ev_min2 {i j : Int} (ha : Ev rInt ta σ F H i) (hb : Ev rInt tb σ F H j) : Ev rInt (tCB (fun xs H Q => ∃ i j : Int, xs = [.int i, .int j] ∧ Q (.int (if j < i then j else i)) H) (tCons ta (tCons tb tNil))) σ F H (if j < i then j else i) := fun F1 H1 g1 Q q =>
  ha F1 H1 g1 _ fun v F2 H2 g2 r => hb F2 H2 (g1.trans g2) _ fun w F3 H3 g3 r2 => ⟨i, j, by rw [show v = _ from r, show w = _ from r2], q _ F3 H3 (g2.trans g3) rfl⟩
theorem ev_max2 {i j : Int} (ha : Ev rInt ta σ F H i) (hb : Ev rInt tb σ F H j) : Ev rInt (tCB (fun xs H Q => ∃ i j : Int, xs = [.int i, .int j] ∧ Q (.int (if j > i then j else i)) H) (tCons ta (tCons tb tNil))) σ F H (if j > i then j else i) := fun F1 H1 g1 Q q =>
  ha F1 H1 g1 _ fun v F2 H2 g2 r => hb F2 H2 (g1.trans g2) _ fun w F3 H3 g3 r2 => ⟨i, j, by rw [show v = _ from r, show w = _ from r2], q _ F3 H3 (g2.trans g3) rfl⟩

/-! ### own == of turns, isinstance -/
/-- F, and the tuples that are new in H' -/
def extF (F H H' : Hp) : Hp := fun b => match F b with
  | some o => some o
  | none => match H b, H' b with
    | none, some (.tup xs) => some (.tup xs)
    | _, _ => none
theorem extF_old {F H H' : Hp} {b : Addr} {o : HO} (h : F b = some o) : extF F H H' b = some o := by
  unfold extF
  rw [h]
theorem extF_none {F H H' : Hp} {b : Addr} (h : F b = none) (n : H b ≠ none) : extF F H H' b = none := by
  unfold extF
  rw [h]
  cases q : H b with
  | none => exact absurd q n
  | some o => rfl
theorem extF_some {F H H' : Hp} {b : Addr} {o : HO} (h : extF F H H' b = some o) : F b = some o ∨ H' b = some o := by
  unfold extF at h
  split at h
  · rename_i u q
    left
    rw [q]
    exact h
  · split at h
    · rename_i q1 q2
      right
      rw [q2]
      exact h
    · cases h
theorem extF_new {F H H' : Hp} {b : Addr} {xs : List V} (h : F b = none) (n : H b = none) (t : H' b = some (.tup xs)) : extF F H H' b = some (.tup xs) := by
  unfold extF
  rw [h, n, t]
theorem ExT.extend {F H H' : Hp} (e : ExT F H) (x : Ext H H') : ExT (extF F H H') H' := by
  refine ⟨?_, ?_, ?_⟩
  · intro b o h
    rcases extF_some h with z | z
    · exact x b o (e b o z)
    · exact z
  · intro p hp
    obtain ⟨h0, ps, h1, h2, h3⟩ := e.tb p hp
    exact ⟨extF_none h0 (by rw [h1]; exact fun z => nomatch z), ps, x _ _ h1, h2, fun pos cv hc => by obtain ⟨c, e1, e2⟩ := h3 pos cv hc; exact ⟨c, e1, extF_old e2⟩⟩
  · intro b xs hb
    cases q1 : H b with
    | some u =>
      have z := x b u q1
      rw [hb] at z
      cases z
      exact extF_old (e.tt b xs q1)
    | none => exact extF_new (e.free q1) q1 hb
theorem Gr.ext {F H H' : Hp} (e : ExT F H) (x : Ext H H') : Gr M0 F H (extF F H H') H' where
  ff := fun b o h => extF_old h
  fh := e.extend x
  hh0 := fun b o _ _ h => x b o h
  nw := fun b _ h n => extF_none n h
  dm := fun b h => by
    cases q : H b with
    | none => exact absurd q h
    | some o => rw [x b o q]; exact fun z => nomatch z
  t0 := e.t0
def REq (C : Addr) : Addr → Addr → Hp → Prop := fun a b H => ∃ F t, ExT F H ∧ rTurns C F (.ref a) t ∧ rTurns C F (.ref b) t
instance {R : Addr → Addr → Hp → Prop} : SpLen (spEq R) 2 := ⟨fun ⟨_, _, h, _⟩ => by rw [h]; rfl⟩
theorem ev_eqTurns {C : Addr} {t : Tn} (ha : Ev (rTurns C) ta σ F H t) (hb : Ev (rTurns C) tb σ F H t) : Ev rBl (tOp (rEqG (DIns C (REq C))) ta tb) σ F H true := fun F1 H1 g1 Q q =>
  ha F1 H1 g1 _ fun v F2 H2 g2 r => hb F2 H2 (g1.trans g2) _ fun w F3 H3 g3 r2 => by
    have r' := Mn.mono g3.ff r
    have r3 := r'
    have r4 := r2
    obtain ⟨a, dx, l, rfl, h1, h2⟩ := r3
    obtain ⟨b, dy, l', rfl, h3, h4⟩ := r4
    exact ⟨⟨a, b, dx, dy, _, _, rfl, rfl, g3.fh _ _ h1, g3.fh _ _ h3, F3, t, g3.fh, r', r2⟩, fun H' x => q _ _ H' ((g2.trans g3).trans (Gr.ext g3.fh x)) rfl⟩
abbrev rIsC (C : Addr) : List V → Hp → VK → Prop := fun xs H Q => ∃ a dx fs, xs = [.ref a, .ref C] ∧ H a = some (.ins C dx fs) ∧ Q (.bl true) H
theorem ev_isTurns {C : Addr} {t : Tn} (ha : Ev (rTurns C) ta σ F H t) : Ev rBl (tCB (rIsC C) (tCons ta (tCons (tC (.ref C)) tNil))) σ F H true := fun F1 H1 g1 Q q =>
  ha F1 H1 g1 _ fun v F2 H2 g2 ⟨a, dx, l, e, h1, h2⟩ => ⟨a, dx, _, by rw [e], g2.fh _ _ h1, q _ F2 H2 g2 rfl⟩

/-! ### statements -/
/-- x = [e]: a list that may change -/
theorem x_lst1 {i : Nat} (e : ExT F H) (h : Ev R te σ F H x) (k : ∀ v l F' H', Gr M0 F H F' H' → R F' v x → H' l = none → D.nx (σ.set i (some (.ref l))) (upd H' l (.lst [v]))) : tAsg (tLst (tCons te tNil)) (gName i) D σ H :=
  h F H (.refl e) _ fun v F' H' g r => ⟨by show 1 ≤ sizeLine; decide, fun l hl => k v l F' H' g r hl⟩
/-- xs.append(e), e a draw -/
theorem x_appS {a l : Addr} {c N : Nat} {P : α → Prop} {vs : List V} {i : Nat} (hne : l ≠ a) (h : EvS a c R te σ F H P) (e : ExT F H) (fa : F a = none) (s : Src H a N) (hc : c ≤ N) (hv : σ[i]? = some (some (.ref l))) (hl : H l = some (.lst vs)) (hz : vs.length < sizeLine)
    (k : ∀ v x F' H', Gr (M1 a) F H F' H' → F' a = none → Src H' a (N - c) → P x → R F' v x → H' l = some (.lst vs) → D.nx σ (upd H' l (.lst (vs ++ [v])))) : tDrop (tBM K "list" rAppend (tVar i) (tCons te tNil)) D σ H :=
  ⟨.ref l, hv, .inl ⟨rfl, vs, SqL.of hl⟩, h F H (N - c) (.refl e) fa (s.le (by omega)) _ fun w x F' H' g fa' s' p r => ⟨l, vs, w, rfl, rfl, g.hh _ _ hne hl, hz, k w x F' H' g fa' s' p r (g.hh _ _ hne hl)⟩⟩
/-- for k in range(n), n a draw -/
theorem x_forRS {a : Addr} {c N j : Nat} {P1 : Int → Prop} (h : EvS a c rInt ta σ F H P1) (e : ExT F H) (fa : F a = none) (s : Src H a N) (hc : c ≤ N) (hn : ∀ n, P1 n → 0 ≤ n ∧ n ≤ 1000000)
    (k : ∀ n : Nat, P1 (n : Int) → ∀ F1 H1, Gr (M1 a) F H F1 H1 → F1 a = none → Src H1 a (N - c) → ∃ Pv : Nat → St → Hp → Hp → Prop, Pv 0 σ F1 H1 ∧
      (∀ i σ' F' H', i < n → Ex F1 F' → ExT F' H' → Pv i σ' F' H' →
        ts { D with nx := fun σ2 H2 => ∃ F2, Ex F1 F2 ∧ ExT F2 H2 ∧ Pv (i + 1) σ2 F2 H2, ct := fun σ2 H2 => ∃ F2, Ex F1 F2 ∧ ExT F2 H2 ∧ Pv (i + 1) σ2 F2 H2, bk := D.nx } (σ'.set j (some (.int (i : Int)))) H') ∧
      ∀ σ' F' H', Ex F1 F' → ExT F' H' → Pv n σ' F' H' → D.nx σ' H') : tFor (iRng1 (tCons ta tNil)) (gName j) ts D σ H := by
  refine h F H (N - c) (.refl e) fa (s.le (by omega)) _ fun v n F1 H1 g1 fa1 s1 p ea => ?_
  obtain ⟨n0, n1⟩ := hn n p
  obtain ⟨m, rfl⟩ : ∃ m : Nat, n = (m : Int) := ⟨n.toNat, by omega⟩
  obtain ⟨Pv, h0, hs, hd⟩ := k m p F1 H1 g1 fa1 s1
  refine ⟨(m : Int), by rw [show v = _ from ea], by omega, by omega, ?_⟩
  rw [Int.toNat_natCast]
  refine for_range (lo := 0) (n := m) (fun i σ' H' => ∃ F', Ex F1 F' ∧ ExT F' H' ∧ Pv i σ' F' H') ⟨F1, Ex.refl _, g1.fh, h0⟩ ?_ ?_
  · rintro i σ' H' hi ⟨F', e1, e2, pv⟩
    have e0 : (0 : Int) + (i : Int) = (i : Int) := Int.zero_add _
    show ts _ (σ'.set j (some (.int ((0 : Int) + (i : Int))))) H'
    rw [e0]
    exact hs i σ' F' H' hi e1 e2 pv
  · rintro σ' H' ⟨F', e1, e2, pv⟩
    exact hd σ' F' H' e1 e2 pv
end
/-- the script, or any list that is only read -/
def rQ (K : PySem.W.Frag) : Rp (List Int) := fun F v ns => ∃ a, v = .ref a ∧ SqL K F a (ns.map V.int)
instance {K : PySem.W.Frag} : Mn (rQ K) := ⟨fun e ⟨a, h1, h2⟩ => ⟨a, h1, Ex.seq e h2⟩⟩
end El

set_option Elab.async false
set_option linter.all false
set_option maxRecDepth 100000
set_option maxHeartbeats 4000000
namespace El
open PySem PySem.Spec L2
variable [LawTabs]
/-! ### dicts of whole numbers, as sets -/
def kvsOf (ks : List Nat) : List (Key × V) := ks.map fun k : Nat => ((Sum.inl (k : Int) : Key), V.bl true)
def rDct : Rp (List Nat) := fun F v ks => ∃ a, v = .ref a ∧ F a = some (.dK (kvsOf ks))
instance : Mn rDct := ⟨fun e ⟨a, h1, h2⟩ => ⟨a, h1, e _ _ h2⟩⟩
theorem val_kvs {k : Nat} : ∀ {ks : List Nat}, (valV (kvsOf ks) (Sum.inl (k : Int))).isSome = decide (k ∈ ks)
  | [] => rfl
  | j :: ks => by
    by_cases h : j = k
    · subst h
      rw [show kvsOf (j :: ks) = ((Sum.inl (j : Int) : Key), V.bl true) :: kvsOf ks from rfl, valV_pos rfl, decide_eq_true List.mem_cons_self]
      rfl
    · rw [show kvsOf (j :: ks) = ((Sum.inl (j : Int) : Key), V.bl true) :: kvsOf ks from rfl, valV_neg (fun e => h (by injection e with e; omega)), val_kvs (ks := ks)]
      have : (k ∈ j :: ks) ↔ k ∈ ks := by rw [List.mem_cons]; exact ⟨fun z => z.elim (fun e => absurd e.symm h) id, .inr⟩
      rw [decide_eq_decide.mpr this]
theorem put_kvs {k : Nat} {ks : List Nat} (h : k ∉ ks) : putK (kvsOf ks) (Sum.inl (k : Int)) (.bl true) = kvsOf (ks ++ [k]) := by
  have e : valV (kvsOf ks) (Sum.inl (k : Int)) = none := by
    have := val_kvs (k := k) (ks := ks)
    rw [decide_eq_false h] at this
    cases q : valV (kvsOf ks) (Sum.inl (k : Int)) with
    | none => rfl
    | some v => rw [q] at this; cases this
  rw [putK_new _ e]
  unfold kvsOf
  rw [List.map_append]
  rfl
theorem len_kvs (ks : List Nat) : (kvsOf ks).length = ks.length := List.length_map _
section
variable {K : PySem.W.Frag} {σ : St} {F H F' H' : Hp} {ta tb tc td ty tv te tl to : TE} {α β γ : Type} {R : Rp α} {S : Rp β} {U : Rp γ} {x : α} {y : β} {xs : List α} {ys : List β} {D : Ends} {ts : TS} {d l : Addr} {ks : List Nat} {k : Nat}
theorem ev_din (ha : Ev rNat ta σ F H k) (hd : Ev rDct td σ F H ks) : Ev rBl (tDIn ta td) σ F H (decide (k ∈ ks)) := fun F1 H1 g1 Q q =>
  ha F1 H1 g1 _ fun v F2 H2 g2 r => hd F2 H2 (g1.trans g2) _ fun w F3 H3 g3 ⟨a, e, h⟩ => ⟨a, _, e, by
    cases (show v = _ from r)
    exact DGet.k (k := Sum.inl (k : Int)) (g3.fh _ _ h), by rw [val_kvs]; exact q _ F3 H3 (g2.trans g3) rfl⟩
theorem ev_dnotM (ha : Ev rNat ta σ F H k) (hd : Ev rRef td σ F H d) (h : H d = some (.dK (kvsOf ks))) : Ev rBl (tDNotIn ta td) σ F H (!decide (k ∈ ks)) := fun F1 H1 g1 Q q =>
  ha F1 H1 g1 _ fun v F2 H2 g2 r => hd F2 H2 (g1.trans g2) _ fun w F3 H3 g3 e => ⟨d, _, e, by
    cases (show v = _ from r)
    exact DGet.k (k := Sum.inl (k : Int)) (g3.hx _ _ (g2.hx _ _ (g1.hx _ _ h))), by rw [val_kvs]; exact q _ F3 H3 (g2.trans g3) rfl⟩
theorem ev_lenD (hd : Ev rDct td σ F H ks) : Ev rInt (tCB (fun xs H Q => ∃ a kvs, xs = [V.ref a] ∧ H a = some (.dK kvs) ∧ Q (.int kvs.length) H) (tCons td tNil)) σ F H (ks.length : Int) := fun F1 H1 g1 Q q =>
  hd F1 H1 g1 _ fun v F2 H2 g2 ⟨a, e, h⟩ => ⟨a, _, by rw [e], g2.fh _ _ h, q _ F2 H2 g2 (by rw [len_kvs]; rfl)⟩
theorem x_dict {i : Nat} (k : ∀ p, H p = none → D.nx (σ.set i (some (.ref p))) (upd H p (.dK (kvsOf [])))) : tAsg tDNewK (gName i) D σ H := fun p hp => k p hp
theorem x_dput (e : ExT F H) (hv : Ev rBl tv σ F H true) (hd : Ev rRef td σ F H d) (hy : Ev rNat ty σ F H k) (h : H d = some (.dK (kvsOf ks))) (hn : k ∉ ks) (hz : ks.length < sizeLine)
    (kk : ∀ F' H', Gr M0 F H F' H' → H' d = some (.dK (kvsOf ks)) → D.nx σ (upd H' d (.dK (kvsOf (ks ++ [k]))))) : sDPut td ty tv D σ H :=
  hv F H (.refl e) _ fun v F1 H1 g1 r1 => hd F1 H1 g1 _ fun w F2 H2 g2 r2 => hy F2 H2 (g1.trans g2) _ fun u F3 H3 g3 r3 => by
    cases (show v = _ from r1)
    cases (show u = _ from r3)
    have h3 := g3.hx _ _ (g2.hx _ _ (g1.hx _ _ h))
    refine ⟨d, _, r2, DPut.k (k := Sum.inl (k : Int)) h3 (by rw [len_kvs]; exact hz), ?_⟩
    rw [put_kvs hn]
    exact kk F3 H3 ((g1.trans g2).trans g3) h3
theorem x_pop {i w : Nat} {vs : List V} {y : V} (hv : σ[w]? = some (some (.ref l))) (hl : H l = some (.lst vs)) (hy : vs[vs.length - 1]? = some y) (k : D.nx (σ.set i (some y)) (upd H l (.lst vs.dropLast))) : tAsg (tBM0 K "list" rPop (tVar w)) (gName i) D σ H :=
  ⟨.ref l, hv, .inl ⟨rfl, vs, SqL.of hl⟩, l, vs, y, rfl, rfl, hl, hy, k⟩
theorem x_listM {i : Nat} (e : ExT F H) (h : Ev (rLst R) te σ F H xs) (k : ∀ vs l F' H', Gr M0 F H F' H' → Paired (R F') vs xs → H' l = none → D.nx (σ.set i (some (.ref l))) (upd H' l (.lst vs))) : tAsg (tCB (rListS K) (tCons te tNil)) (gName i) D σ H :=
  h F H (.refl e) _ fun v F' H' g ⟨a, vs, ea, hl, p⟩ => ⟨a, vs, by rw [ea], .inl (SqL.of (g.fh _ _ hl)), fun l hl' => k vs l F' H' g p hl'⟩
/-- xs != [], of a list that may change -/
abbrev dtN : Dt (rLst rNat) := inferInstance
theorem dtN_dep : dtN.dep ≤ 64 := by exact Nat.le_of_ble_eq_true rfl
theorem ev_neNilM {ns : List Nat} (ha : Ev rRef ta σ F H l) (hl : H l = some (.lst (ns.map fun n : Nat => V.int (n : Int)))) : Ev rBl (tOp (rNeD K) ta (tLst tNil)) σ F H (!decide (ns = [])) := fun F1 H1 g1 Q q =>
  ha F1 H1 g1 _ fun v F2 H2 g2 r => ⟨Nat.zero_le _, fun p hp => by
    have g3 : Gr M0 F2 H2 (upd F2 p (.lst [])) (upd H2 p (.lst [])) := .new g2.fh hp
    have pm : ∀ (HH : Hp) (ks : List Nat), Paired (rNat HH) (ks.map fun k : Nat => V.int (k : Int)) ks := fun HH ks => by
      induction ks with
      | nil => exact .nil
      | cons a l ih => exact .cons rfl ih
    have x2 : Ex (upd (fun _ => none) l (.lst (ns.map fun n : Nat => V.int (n : Int)))) (upd H2 p (.lst [])) := fun b o h => by
      by_cases z : b = l
      · subst z
        rw [upd_same] at h
        cases h
        exact g3.hx _ _ ((g1.trans g2).hx _ _ hl)
      · rw [upd_ne z] at h
        cases h
    have r1 : rLst rNat (upd (fun _ => none) l (.lst (ns.map fun n : Nat => V.int (n : Int)))) v ns := ⟨l, _, r, upd_same, pm _ _⟩
    have r2 : rLst rNat (upd F2 p (.lst [])) (.ref p) [] := ⟨p, [], rfl, upd_same, .nil⟩
    refine ⟨dtN.data ns, dtN.data [], dtN.rep x2 r1, dtN.rep g3.fh.ex r2, shapedD dtN dtN_dep _, shapedD dtN dtN_dep _, ?_⟩
    have e : PyData.eqv (dtN.data ns) (dtN.data []) = decide (ns = []) := by
      by_cases z : ns = []
      · rw [decide_eq_true z]; exact (dtN.eqv _ _).mpr z
      · rw [decide_eq_false z]
        cases q : PyData.eqv (dtN.data ns) (dtN.data []) with
        | false => rfl
        | true => exact absurd ((dtN.eqv _ _).mp q) z
    rw [e]
    exact q _ _ _ (g2.trans g3) rfl⟩
/-! ### loops with pairs -/
theorem x_forLP {i j : Nat} (e : ExT F H) (h : Ev (rLst (rPr R S)) tl σ F H ps) (Pv : Nat → St → Hp → Hp → Prop) (h0 : ∀ F1 H1, Gr M0 F H F1 H1 → Pv 0 σ F1 H1)
    (hs : ∀ F1, Ex F F1 → ∀ n x v w σ' F' H', ps[n]? = some x → Ex F1 F' → ExT F' H' → R F' v x.1 → S F' w x.2 → Pv n σ' F' H' →
      ts { D with nx := fun σ2 H2 => ∃ F2, Ex F1 F2 ∧ ExT F2 H2 ∧ Pv (n + 1) σ2 F2 H2, ct := fun σ2 H2 => ∃ F2, Ex F1 F2 ∧ ExT F2 H2 ∧ Pv (n + 1) σ2 F2 H2, bk := D.nx } ((σ'.set i (some v)).set j (some w)) H')
    (hd : ∀ σ' F' H', Ex F F' → ExT F' H' → Pv ps.length σ' F' H' → D.nx σ' H') (m : Mn R := by infer_instance) (m2 : Mn S := by infer_instance) : tFor (iList K tl) (gTup K 2 (gCons (gName i) (gCons (gName j) gNil))) ts D σ H := by
  refine h F H (.refl e) _ fun v F1 H1 g1 ⟨a, vs, ea, hl, p⟩ => ⟨a, ea, ⟨vs, SqL.of (g1.fh _ _ hl)⟩, ?_⟩
  refine for_list (xs := vs) (fun i σ' H' => ∃ F', Ex F1 F' ∧ ExT F' H' ∧ Pv i σ' F' H') ⟨F1, Ex.refl _, g1.fh, h0 F1 H1 g1⟩ (fun i σ' H' _ ⟨F', e1, e2, _⟩ => SqL.of (e2 _ _ (e1 _ _ hl))) ?_ ?_
  · rintro n w σ' H' hi ⟨F', e1, e2, pv⟩
    obtain ⟨x, hx, rx⟩ := Paired.getL p hi
    obtain ⟨b, u, w, eb, hb, r1, r2⟩ := Mn.mono e1 rx
    subst eb
    exact ⟨b, [u, w], rfl, SqT.of (e2 _ _ hb), rfl, u, [w], rfl, w, [], rfl, rfl, hs F1 g1.ff n x u w σ' F' H' hx e1 e2 r1 r2 pv⟩
  · rintro σ' H' ⟨F', e1, e2, pv⟩
    rw [p.length] at pv
    exact hd σ' F' H' (g1.ff.trans e1) e2 pv
theorem x_forE {i j : Nat} (e : ExT F H) (h : Ev (rLst R) tl σ F H xs) (Pv : Nat → St → Hp → Hp → Prop) (h0 : ∀ F1 H1, Gr M0 F H F1 H1 → Pv 0 σ F1 H1)
    (hst : ∀ n σ' F' H' F2 H2, Gr M0 F' H' F2 H2 → Pv n σ' F' H' → Pv n σ' F2 H2)
    (hs : ∀ F1, Ex F F1 → ∀ n x v σ' F' H', xs[n]? = some x → Ex F1 F' → ExT F' H' → R F' v x → Pv n σ' F' H' →
      ts { D with nx := fun σ2 H2 => ∃ F2, Ex F1 F2 ∧ ExT F2 H2 ∧ Pv (n + 1) σ2 F2 H2, ct := fun σ2 H2 => ∃ F2, Ex F1 F2 ∧ ExT F2 H2 ∧ Pv (n + 1) σ2 F2 H2, bk := D.nx } ((σ'.set i (some (.int (n : Int)))).set j (some v)) H')
    (hd : ∀ σ' F' H', Ex F F' → ExT F' H' → Pv xs.length σ' F' H' → D.nx σ' H') (m : Mn R := by infer_instance) : tFor (iEnum K (tCons tl tNil)) (gTup K 2 (gCons (gName i) (gCons (gName j) gNil))) ts D σ H := by
  refine h F H (.refl e) _ fun v F1 H1 g1 ⟨a, vs, ea, hl, p⟩ => ⟨a, vs, by rw [ea], SqL.of (g1.fh _ _ hl), ?_⟩
  refine for_it walk_enum (fun i σ' H' => ∃ F', Ex F1 F' ∧ ExT F' H' ∧ Pv i σ' F' H') ⟨F1, Ex.refl _, g1.fh, h0 F1 H1 g1⟩ (fun i σ' H' _ ⟨F', e1, e2, _⟩ => SqL.of (e2 _ _ (e1 _ _ hl))) ?_ ?_
  · rintro n w σ' H' H2 hi ⟨F', e1, e2, pv⟩ ⟨T, u, w2, rfl, hT, rfl, h1, h2⟩
    obtain ⟨x, hx, rx⟩ := Paired.getL p h2
    cases h1
    have g2 : Gr M0 F' H' (upd F' T (.tup [.int (n : Nat), w2])) (upd H' T (.tup [.int (n : Nat), w2])) := .new e2 hT
    exact ⟨T, [.int (n : Nat), w2], rfl, SqT.of upd_same, rfl, _, [w2], rfl, w2, [], rfl, rfl, hs F1 g1.ff n x w2 σ' _ _ hx (e1.trans g2.ff) g2.fh (m.mono (e1.trans g2.ff) rx) (hst _ _ _ _ _ _ g2 pv)⟩
  · rintro σ' H' ⟨F', e1, e2, pv⟩
    rw [p.length] at pv
    exact hd σ' F' H' (g1.ff.trans e1) e2 pv
end
end El

set_option Elab.async false
set_option linter.all false
set_option maxRecDepth 100000
set_option maxHeartbeats 4000000
namespace El
open PySem PySem.Spec L2
variable [LawTabs]
theorem take_filter_succ {α β : Type} {p : α → Bool} {f : α → β} {xs : List α} {i : Nat} {x : α} (hx : xs[i]? = some x) : ((xs.take (i + 1)).filter p).map f = if p x = true then ((xs.take i).filter p).map f ++ [f x] else ((xs.take i).filter p).map f := by
  rw [List.take_add_one, hx, List.filter_append]
  show List.map f (_ ++ List.filter p [x]) = _
  rw [List.filter_cons]
  split
  · rw [List.map_append]; rfl
  · rw [List.filter_nil, List.append_nil]
section
variable {K : PySem.W.Frag} {σ : St} {F H F' H' : Hp} {ta tb tc td ty tv te tl to : TE} {tt : TT} {α β γ : Type} {R : Rp α} {S : Rp β} {U : Rp γ} {x : α} {y : β} {xs : List α} {ys : List β} {D : Ends} {ts : TS}
theorem et_yes : EvT tYes σ F H true := fun F1 H1 g Q q => q F1 H1 (.refl g.fh)
/-- [elt for x in list if test] -/
theorem ev_lcF (p : α → Bool) (f : α → γ) {n : Nat} {vs : List Nat} (h : Ev (rLst R) tl σ F H xs) (hz : xs.length ≤ 1000000) (hw : ∀ v, wipe ((wipe σ vs).set n (some v)) vs = wipe σ vs)
    (ht : ∀ (i : Nat) x v F1 H1, xs[i]? = some x → Gr M0 F H F1 H1 → R F1 v x → EvT tt ((wipe σ vs).set n (some v)) F1 H1 (p x))
    (he : ∀ (i : Nat) x v F1 H1, xs[i]? = some x → p x = true → Gr M0 F H F1 H1 → R F1 v x → Ev U te ((wipe σ vs).set n (some v)) F1 H1 (f x)) (m : Mn R := by infer_instance) (m' : Mn U := by infer_instance) : Ev (rLst U) (tLc (iList K tl) (gName n) tt te vs) σ F H ((xs.filter p).map f) := by
  intro F1 H1 g1 Q q
  refine h F1 H1 g1 _ fun v F2 H2 g2 ⟨a, ws, ea, hl, pr⟩ => ⟨a, ea, ⟨ws, SqL.of (g2.fh _ _ hl)⟩, fun D hD => ?_⟩
  refine lc_list (xs := ws) (fun i H' => ∃ F' us, Gr M0 F2 H2 F' H' ∧ F' D = none ∧ H' D = some (.lst us) ∧ Paired (U F') us (((xs.take i).filter p).map f)) ⟨F2, [], .loc g2.fh hD, g2.fh.free hD, upd_same, .nil⟩ (fun i H' _ ⟨F', us, g, _⟩ => SqL.of (g.fh _ _ (g.ff _ _ hl))) ?_ ?_
  · rintro i w H' hi ⟨F', us, g, fD, hD', pu⟩
    obtain ⟨x, hx, rx⟩ := Paired.getL pr hi
    have rx' := m.mono g.ff rx
    refine ⟨hw w, ?_⟩
    refine ht i x w F' H' hx ((g1.trans g2).trans g) rx' F' H' (.refl g.fh) _ fun F3 H3 g3 => ?_
    have e3 := take_filter_succ (p := p) (f := f) hx
    cases hp : p x with
    | false =>
      rw [hp] at e3
      refine ⟨F3, us, g.trans g3, g3.nn hD' fD, g3.hx _ _ hD', ?_⟩
      rw [e3]
      exact Paired.up g3.ff pu
    | true =>
      rw [hp] at e3
      refine he i x w F3 H3 hx hp (((g1.trans g2).trans g).trans g3) (m.mono g3.ff rx') F3 H3 (.refl g3.fh) _ fun u F4 H4 g4 r4 => ?_
      have g34 := g3.trans g4
      refine ⟨us, g34.hx _ _ hD', ?_, F4, us ++ [u], (g.trans g34).set' (g34.nn hD' fD) (.inl hD), g34.nn hD' fD, upd_same, ?_⟩
      · rw [pu.length, List.length_map, sizeLine_eq]
        have := List.length_filter_le p (xs.take i)
        rw [List.length_take] at this
        omega
      · rw [e3]
        exact (Paired.up g34.ff pu).snoc r4
  · rintro H' ⟨F', us, g, fD, hD', pu⟩
    rw [pr.length, List.take_length] at pu
    exact q _ _ _ (g2.trans (g.frz hD' (g2.fh.free hD) (.inl hD))) ⟨D, us, rfl, upd_same, Paired.up (g.fh.frz hD' fD) pu⟩
/-- [elt for k in range(n) if test] -/
theorem ev_lcRF (p : Nat → Bool) (f : Nat → γ) {n j : Nat} {vs : List Nat} (h : Ev rInt ta σ F H (n : Int)) (hz : n ≤ 1000000) (hw : ∀ v, wipe ((wipe σ vs).set j (some v)) vs = wipe σ vs)
    (ht : ∀ (i : Nat) F1 H1, i < n → Gr M0 F H F1 H1 → EvT tt ((wipe σ vs).set j (some (.int (i : Int)))) F1 H1 (p i))
    (he : ∀ (i : Nat) F1 H1, i < n → p i = true → Gr M0 F H F1 H1 → Ev U te ((wipe σ vs).set j (some (.int (i : Int)))) F1 H1 (f i)) (m' : Mn U := by infer_instance) : Ev (rLst U) (tLc (iRng1 (tCons ta tNil)) (gName j) tt te vs) σ F H (((List.range n).filter p).map f) := by
  intro F1 H1 g1 Q q
  refine h F1 H1 g1 _ fun v F2 H2 g2 ea => ⟨(n : Int), by rw [show v = _ from ea], by omega, by omega, fun D hD => ?_⟩
  rw [Int.toNat_natCast]
  refine lc_range (lo := 0) (n := n) (fun i H' => ∃ F' us, Gr M0 F2 H2 F' H' ∧ F' D = none ∧ H' D = some (.lst us) ∧ Paired (U F') us ((((List.range n).take i).filter p).map f)) ⟨F2, [], .loc g2.fh hD, g2.fh.free hD, upd_same, .nil⟩ ?_ ?_
  · rintro i H' hi ⟨F', us, g, fD, hD', pu⟩
    have hx : (List.range n)[i]? = some i := List.getElem?_range hi
    have e0 : (0 : Int) + (i : Int) = (i : Int) := Int.zero_add _
    rw [e0]
    refine ⟨hw _, ?_⟩
    refine ht i F' H' hi ((g1.trans g2).trans g) F' H' (.refl g.fh) _ fun F3 H3 g3 => ?_
    have e3 := take_filter_succ (p := p) (f := f) hx
    cases hp : p i with
    | false =>
      rw [hp] at e3
      refine ⟨F3, us, g.trans g3, g3.nn hD' fD, g3.hx _ _ hD', ?_⟩
      rw [e3]
      exact Paired.up g3.ff pu
    | true =>
      rw [hp] at e3
      refine he i F3 H3 hi hp (((g1.trans g2).trans g).trans g3) F3 H3 (.refl g3.fh) _ fun u F4 H4 g4 r4 => ?_
      have g34 := g3.trans g4
      refine ⟨us, g34.hx _ _ hD', ?_, F4, us ++ [u], (g.trans g34).set' (g34.nn hD' fD) (.inl hD), g34.nn hD' fD, upd_same, ?_⟩
      · rw [pu.length, List.length_map, sizeLine_eq]
        have := List.length_filter_le p ((List.range n).take i)
        rw [List.length_take, List.length_range] at this
        omega
      · rw [e3]
        exact (Paired.up g34.ff pu).snoc r4
  · rintro H' ⟨F', us, g, fD, hD', pu⟩
    rw [List.take_of_length_le (by rw [List.length_range]; exact Nat.le_refl _)] at pu
    exact q _ _ _ (g2.trans (g.frz hD' (g2.fh.free hD) (.inl hD))) ⟨D, us, rfl, upd_same, Paired.up (g.fh.frz hD' fD) pu⟩
/-- [elt for x, y in pairs if test] -/
theorem ev_lcPF (p : α × β → Bool) (f : α × β → γ) {ps : List (α × β)} {n j : Nat} {vs : List Nat} (h : Ev (rLst (rPr R S)) tl σ F H ps) (hz : ps.length ≤ 1000000) (hw : ∀ v w, wipe (((wipe σ vs).set n (some v)).set j (some w)) vs = wipe σ vs)
    (ht : ∀ (i : Nat) x v w F1 H1, ps[i]? = some x → Gr M0 F H F1 H1 → R F1 v x.1 → S F1 w x.2 → EvT tt (((wipe σ vs).set n (some v)).set j (some w)) F1 H1 (p x))
    (he : ∀ (i : Nat) x v w F1 H1, ps[i]? = some x → p x = true → Gr M0 F H F1 H1 → R F1 v x.1 → S F1 w x.2 → Ev U te (((wipe σ vs).set n (some v)).set j (some w)) F1 H1 (f x)) (m : Mn R := by infer_instance) (m2 : Mn S := by infer_instance) (m' : Mn U := by infer_instance) :
    Ev (rLst U) (tLc (iList K tl) (gTup K 2 (gCons (gName n) (gCons (gName j) gNil))) tt te vs) σ F H ((ps.filter p).map f) := by
  intro F1 H1 g1 Q q
  refine h F1 H1 g1 _ fun v F2 H2 g2 ⟨a, ws, ea, hl, pr⟩ => ⟨a, ea, ⟨ws, SqL.of (g2.fh _ _ hl)⟩, fun D hD => ?_⟩
  refine lc_list (xs := ws) (fun i H' => ∃ F' us, Gr M0 F2 H2 F' H' ∧ F' D = none ∧ H' D = some (.lst us) ∧ Paired (U F') us (((ps.take i).filter p).map f)) ⟨F2, [], .loc g2.fh hD, g2.fh.free hD, upd_same, .nil⟩ (fun i H' _ ⟨F', us, g, _⟩ => SqL.of (g.fh _ _ (g.ff _ _ hl))) ?_ ?_
  · rintro i w H' hi ⟨F', us, g, fD, hD', pu⟩
    obtain ⟨x, hx, rx⟩ := Paired.getL pr hi
    obtain ⟨b, u1, u2, eb, hb, r1, r2⟩ := Mn.mono g.ff rx
    subst eb
    refine ⟨b, [u1, u2], rfl, SqT.of (g.fh _ _ hb), rfl, u1, [u2], rfl, u2, [], rfl, rfl, hw _ _, ?_⟩
    refine ht i x u1 u2 F' H' hx ((g1.trans g2).trans g) r1 r2 F' H' (.refl g.fh) _ fun F3 H3 g3 => ?_
    have e3 := take_filter_succ (p := p) (f := f) hx
    cases hp : p x with
    | false =>
      rw [hp] at e3
      refine ⟨F3, us, g.trans g3, g3.nn hD' fD, g3.hx _ _ hD', ?_⟩
      rw [e3]
      exact Paired.up g3.ff pu
    | true =>
      rw [hp] at e3
      refine he i x u1 u2 F3 H3 hx hp (((g1.trans g2).trans g).trans g3) (m.mono g3.ff r1) (m2.mono g3.ff r2) F3 H3 (.refl g3.fh) _ fun u F4 H4 g4 r4 => ?_
      have g34 := g3.trans g4
      refine ⟨us, g34.hx _ _ hD', ?_, F4, us ++ [u], (g.trans g34).set' (g34.nn hD' fD) (.inl hD), g34.nn hD' fD, upd_same, ?_⟩
      · rw [pu.length, List.length_map, sizeLine_eq]
        have := List.length_filter_le p (ps.take i)
        rw [List.length_take] at this
        omega
      · rw [e3]
        exact (Paired.up g34.ff pu).snoc r4
  · rintro H' ⟨F', us, g, fD, hD', pu⟩
    rw [pr.length, List.take_length] at pu
    exact q _ _ _ (g2.trans (g.frz hD' (g2.fh.free hD) (.inl hD))) ⟨D, us, rfl, upd_same, Paired.up (g.fh.frz hD' fD) pu⟩
/-- x = [[] for k in range(n)]: n lists that may change -/
theorem x_lists {i j n : Nat} {vs : List Nat} (e : ExT F H) (h : Ev rInt ta σ F H (n : Int)) (hz : n ≤ 1000000) (hw : ∀ v, wipe ((wipe σ vs).set j (some v)) vs = wipe σ vs)
    (k : ∀ (l : Addr) (as : List Addr) F' H', Gr M0 F H F' H' → as.length = n → H l = none → F' l = none → H' l = some (.lst (as.map V.ref)) → as.Nodup → (∀ b ∈ as, H b = none ∧ F' b = none ∧ H' b = some (.lst []) ∧ b ≠ l) → D.nx (σ.set i (some (.ref l))) H') : tAsg (tLc (iRng1 (tCons ta tNil)) (gName j) tYes (tLst tNil) vs) (gName i) D σ H := by
  refine h F H (.refl e) _ fun v F2 H2 g2 ea => ⟨(n : Int), by rw [show v = _ from ea], by omega, by omega, fun B hB => ?_⟩
  rw [Int.toNat_natCast]
  have hB0 : H B = none := Gr.free g2 hB
  refine lc_range (lo := 0) (n := n) (fun i H' => ∃ as : List Addr, Gr M0 F H F2 H' ∧ as.length = i ∧ F2 B = none ∧ H' B = some (.lst (as.map V.ref)) ∧ as.Nodup ∧ ∀ b ∈ as, H b = none ∧ F2 b = none ∧ H' b = some (.lst []) ∧ b ≠ B)
    ⟨[], g2.trans (.loc g2.fh hB), rfl, g2.fh.free hB, upd_same, List.nodup_nil, fun _ h => nomatch h⟩ ?_ ?_
  · rintro i H' hi ⟨as, g, hl, fB, hB', nd, hb⟩
    refine ⟨hw _, Nat.zero_le _, fun c hc => ?_⟩
    have hcB : c ≠ B := fun z => by subst z; rw [hB'] at hc; cases hc
    have hcn : c ∉ as := fun z => by rw [(hb c z).2.2.1] at hc; cases hc
    have g3 := g.trans (Gr.loc g.fh hc (o := .lst []))
    have fc : F2 c = none := g.fh.free hc
    have hc0 : H c = none := Gr.free g hc
    refine ⟨as.map V.ref, by rw [upd_ne hcB.symm]; exact hB', by rw [List.length_map, hl, sizeLine_eq]; omega, as ++ [c], g3.set' fB (.inl hB0), by rw [List.length_append, hl]; rfl, fB, by rw [upd_same, List.map_append]; rfl, ?_, fun b hbm => ?_⟩
    · refine List.nodup_append.mpr ⟨nd, by simp, fun x hx y hy => ?_⟩
      rw [List.mem_singleton.mp hy]
      intro z
      rw [z] at hx
      exact hcn hx
    · rcases List.mem_append.mp hbm with h | h
      · obtain ⟨h1, h2, h3, h4⟩ := hb b h
        refine ⟨h1, h2, ?_, h4⟩
        rw [upd_ne h4, upd_ne (fun z : b = c => hcn (by rw [← z]; exact h))]
        exact h3
      · rw [List.mem_singleton.mp h]
        exact ⟨hc0, fc, by rw [upd_ne hcB, upd_same], hcB⟩
  · rintro H' ⟨as, g, hl, fB, hB', nd, hb⟩
    exact k B as F2 H' g hl hB0 fB hB' nd hb
end
/-- things that may change are frozen, all of them -/
theorem Gr.frzs {M : Addr → Prop} {F0 H0 H : Hp} (e : ExT F0 H0) : ∀ {as : List Addr} {F : Hp}, Gr M F0 H0 F H → (∀ b ∈ as, H b ≠ none ∧ H0 b = none) → ∃ F', Gr M F0 H0 F' H ∧ Ex F F' ∧ ∀ b ∈ as, F' b = H b
  | [], F, g, _ => ⟨F, g, Ex.refl F, fun _ h => nomatch h⟩
  | a :: as, F, g, h => by
    obtain ⟨h1, h2⟩ := h a List.mem_cons_self
    obtain ⟨o, ho⟩ : ∃ o, H a = some o := by
      cases q : H a with
      | none => exact absurd q h1
      | some o => exact ⟨o, rfl⟩
    obtain ⟨F1, g1, e1, k1⟩ : ∃ F1, Gr M F0 H0 F1 H ∧ Ex F F1 ∧ F1 a = H a := by
      cases q : F a with
      | none => exact ⟨_, g.frz ho (e.free h2) (.inl h2), Ex.new q, by rw [upd_same, ho]⟩
      | some o' => exact ⟨F, g, Ex.refl F, by rw [q, g.fh _ _ q]⟩
    obtain ⟨F', g', e', k'⟩ := Gr.frzs e g1 fun b hb => h b (List.mem_cons_of_mem _ hb)
    refine ⟨F', g', e1.trans e', fun b hb => ?_⟩
    rcases List.mem_cons.mp hb with rfl | hb
    · rw [ho]
      exact e' _ _ (by rw [k1, ho])
    · exact k' b hb
end El

set_option Elab.async false
set_option linter.all false
set_option maxRecDepth 100000
set_option maxHeartbeats 4000000
namespace El
open PySem PySem.Spec L2
variable [LawTabs]
def onM (n : Nat) (ps : List (Nat × Nat)) : List (List Nat) := (List.range n).map fun x => (ps.filter fun p => p.1 == x).map (·.2)
def dfs (on : List (List Nat)) : Nat → List Nat → List Nat → List Nat
  | 0, _, r => r
  | m + 1, w, r => match w.getLast? with
    | none => r
    | some one => if one ∈ r then dfs on m w.dropLast r else dfs on m (w.dropLast ++ on.getD one []) (r ++ [one])
def fuelM (n : Nat) (ps : List (Nat × Nat)) : Nat := n * (ps.length + 1) + ps.length
def aboveM (n : Nat) (ps : List (Nat × Nat)) : List (List Nat) := (List.range n).map fun p => dfs (onM n ps) (fuelM n ps) ((onM n ps).getD p []) []
def measM (n L : Nat) (w r : List Nat) : Nat := (n - r.length) * (L + 1) + w.length
theorem dfs_nil (on : List (List Nat)) (m : Nat) (r : List Nat) : dfs on m [] r = r := by cases m <;> rfl
theorem dfs_old {on : List (List Nat)} {m : Nat} {w r : List Nat} {one : Nat} (h : one ∈ r) : dfs on (m + 1) (w ++ [one]) r = dfs on m w r := by
  unfold dfs
  simp [h]
  cases m <;> rfl
theorem dfs_new {on : List (List Nat)} {m : Nat} {w r : List Nat} {one : Nat} (h : one ∉ r) : dfs on (m + 1) (w ++ [one]) r = dfs on m (w ++ on.getD one []) (r ++ [one]) := by
  rw [show dfs on (m + 1) (w ++ [one]) r = dfs on (Nat.succ m) (w ++ [one]) r from rfl, dfs]
  rw [List.getLast?_concat, List.dropLast_concat]
  show (if one ∈ r then _ else _) = _
  rw [if_neg h]
theorem on_len {n : Nat} {ps : List (Nat × Nat)} : (onM n ps).length = n := by unfold onM; rw [List.length_map, List.length_range]
theorem on_get {n : Nat} {ps : List (Nat × Nat)} {x : Nat} (h : x < n) : (onM n ps).getD x [] = (ps.filter fun p => p.1 == x).map (·.2) := by
  unfold onM
  rw [List.getD_eq_getElem?_getD, List.getElem?_map, List.getElem?_range h]
  rfl
theorem on_at {n : Nat} {ps : List (Nat × Nat)} {x : Nat} (h : x < n) : (onM n ps)[x]? = some ((onM n ps).getD x []) := getD_at (by rw [on_len]; exact h)
theorem on_le {n : Nat} {ps : List (Nat × Nat)} {x : Nat} : ((onM n ps).getD x []).length ≤ ps.length := by
  by_cases h : x < n
  · rw [on_get h, List.length_map]
    exact List.length_filter_le _ _
  · rw [List.getD_eq_getElem?_getD, List.getElem?_eq_none (by rw [on_len]; omega)]
    exact Nat.zero_le _
theorem on_mem {n : Nat} {ps : List (Nat × Nat)} {x y : Nat} (hp : ∀ p ∈ ps, p.1 < n ∧ p.2 < n) (h : y ∈ (onM n ps).getD x []) : y < n := by
  by_cases hx : x < n
  · rw [on_get hx] at h
    obtain ⟨p, hp1, rfl⟩ := List.mem_map.mp h
    exact (hp p (List.mem_filter.mp hp1).1).2
  · rw [List.getD_eq_getElem?_getD, List.getElem?_eq_none (by rw [on_len]; omega)] at h
    cases h
theorem on_step {n : Nat} {ps : List (Nat × Nat)} {k i : Nat} {p : Nat × Nat} (hp : ps[k]? = some p) (hi : i < n) : (onM n (ps.take (k + 1))).getD i [] = if p.1 = i then (onM n (ps.take k)).getD i [] ++ [p.2] else (onM n (ps.take k)).getD i [] := by
  rw [on_get hi, on_get hi, take_filter_succ (f := (·.2)) hp]
  by_cases h : p.1 = i
  · rw [if_pos h, if_pos (by simp [h])]
  · rw [if_neg h, if_neg (by simp [h])]
theorem nodup_lt {n : Nat} {r : List Nat} (nd : r.Nodup) (h : ∀ y ∈ r, y < n) : r.length ≤ n := by
  have := L2.nat_nodup_len r (List.range n) nd fun x hx => List.mem_range.mpr (h x hx)
  rw [List.length_range] at this
  exact this
theorem above_len {n : Nat} {ps : List (Nat × Nat)} : (aboveM n ps).length = n := by unfold aboveM; rw [List.length_map, List.length_range]
theorem above_get {n : Nat} {ps : List (Nat × Nat)} {x : Nat} (h : x < n) : (aboveM n ps)[x]? = some (dfs (onM n ps) (fuelM n ps) ((onM n ps).getD x []) []) := by
  unfold aboveM
  rw [List.getElem?_map, List.getElem?_range h]
  rfl
theorem meas_old {n L : Nat} {w r : List Nat} {one : Nat} : measM n L w r < measM n L (w ++ [one]) r := by
  unfold measM
  rw [List.length_append]
  show _ < _ + (_ + 1)
  omega
theorem meas_new {n L : Nat} {w r more : List Nat} {one : Nat} (hm : more.length ≤ L) (hr : r.length < n) : measM n L (w ++ more) (r ++ [one]) < measM n L (w ++ [one]) r := by
  unfold measM
  rw [List.length_append, List.length_append, List.length_append]
  have e : n - r.length = (n - (r.length + [one].length)) + 1 := by show _ = n - (r.length + 1) + 1; omega
  rw [e, Nat.succ_mul]
  show _ < _ + (_ + 1)
  omega
theorem paired_of {α β : Type} {F : α → β → Prop} : ∀ {as : List α} {bs : List β}, as.length = bs.length → (∀ (i : Nat) a b, as[i]? = some a → bs[i]? = some b → F a b) → Paired F as bs
  | [], [], _, _ => .nil
  | a :: as, b :: bs, hl, h => .cons (h 0 a b rfl rfl) (paired_of (by simpa using hl) fun i x y hx hy => h (i + 1) x y (by simpa using hx) (by simpa using hy))
theorem nats_P (HH : Hp) : ∀ ks : List Nat, Paired (rNat HH) (ks.map fun k : Nat => V.int (k : Int)) ks
  | [] => .nil
  | _ :: l => .cons rfl (nats_P HH l)
theorem nats_eq {H : Hp} {vs : List V} {ns : List Nat} (p : Paired (rNat H) vs ns) : vs = ns.map fun n : Nat => V.int (n : Int) := by rw [nats_paired p, List.map_map]; rfl
end El

set_option Elab.async false
set_option linter.all false
set_option maxRecDepth 100000
set_option maxHeartbeats 4000000
namespace El
open PySem PySem.Spec L2
variable [LawTabs]
/-! ### orders -/
def rOrder (C : Addr) : Rp (List (List Nat)) := fun H v hs => ∃ a dx l, v = .ref a ∧ H a = some (.ins C dx [("higher", l)]) ∧ rLst rDct H l hs
instance {C : Addr} : Mn (rOrder C) := ⟨fun e ⟨a, dx, l, h1, h2, h3⟩ => ⟨a, dx, l, h1, e _ _ h2, Mn.mono e h3⟩⟩
instance {C : Addr} : NotN (rOrder C) := ⟨fun ⟨_, _, _, h, _⟩ e => by rw [h] at e; cases e⟩
instance {C : Addr} : IsI (rOrder C) C "__len__" := ⟨fun ⟨a, dx, l, h1, h2, h3⟩ => ⟨a, dx, _, h1, h2, rfl⟩⟩
instance {C : Addr} : IsI (rOrder C) C "at_most" := ⟨fun ⟨a, dx, l, h1, h2, h3⟩ => ⟨a, dx, _, h1, h2, rfl⟩⟩
instance {C : Addr} : IsI (rOrder C) C "least" := ⟨fun ⟨a, dx, l, h1, h2, h3⟩ => ⟨a, dx, _, h1, h2, rfl⟩⟩
instance {C : Addr} : IsI (rOrder C) C "greatest" := ⟨fun ⟨a, dx, l, h1, h2, h3⟩ => ⟨a, dx, _, h1, h2, rfl⟩⟩
theorem fld_higher {K : PySem.W.Frag} {C : Addr} (c : Cls K C) (n : NoAttr K C "higher") : IsF (rOrder C) K "higher" (rLst rDct) id := ⟨fun ⟨a, dx, l, h1, h2, h3⟩ => ⟨a, C, dx, _, _, h1, h2, c, n, rfl, h3⟩⟩
def GoodO (n : Nat) (ps : List (Nat × Nat)) : Prop := 1 ≤ n ∧ n ≤ 32 ∧ ps.length ≤ 100 ∧ (∀ p ∈ ps, p.1 < n ∧ p.2 < n ∧ p.1 ≠ p.2) ∧ ∀ p, p < n → p ∉ (aboveM n ps).getD p []
def SpOrder (C : Addr) : Sp := fun vs H Q _ => ∃ (F : Hp) (a dx : Addr) (l : V) (n : Nat) (ps : List (Nat × Nat)), vs = [.ref a, .int (n : Int), l] ∧ ExT F H ∧ F a = none ∧ H a = some (.ins C dx []) ∧ rLst (rPr rNat rNat) F l ps ∧ GoodO n ps ∧
  ∀ F' H', Gr (M1 a) F H F' H' → rOrder C F' (.ref a) (aboveM n ps) → Q .non H'
instance {C : Addr} : SpLen (SpOrder C) 3 := ⟨fun ⟨_, _, _, _, _, _, h, _⟩ => by rw [h]; rfl⟩
theorem ev_Order {σ : St} {F H : Hp} {ta tb : TE} {C : Addr} {n : Nat} {ps : List (Nat × Nat)} {E : XK} (ha : Ev rInt ta σ F H (n : Int)) (hb : Ev (rLst (rPr rNat rNat)) tb σ F H ps) (hg : GoodO n ps) : Ev (rOrder C) (tMake C (SpOrder C) [] E (tCons ta (tCons tb tNil))) σ F H (aboveM n ps) := fun F1 H1 g1 Q q =>
  ha F1 H1 g1 _ fun v F2 H2 g2 r => hb F2 H2 (g1.trans g2) _ fun w F3 H3 g3 r3 => fun x dx nx ndx nex => by
    cases (show v = _ from r)
    have e1 : ExT F3 (upd (upd H3 dx (.own x)) x (.ins C dx [])) := g3.fh.make nx ndx nex.symm
    exact ⟨F3, x, dx, w, n, ps, rfl, e1, g3.fh.free nx, upd_same, r3, hg, fun F' H' g k => ⟨rfl, q _ F' H' ((g2.trans g3).trans (.made (M := M0) nx ndx nex.symm g)) k⟩⟩
def atMostM (hs : List (List Nat)) (x y : Nat) : Bool := decide (x = y) || decide (y ∈ hs.getD x [])
def leastM (hs : List (List Nat)) : Option Nat := (List.range hs.length).find? fun p => decide (((hs.getD p []).length : Int) = (hs.length : Int) - 1)
def greatestM (hs : List (List Nat)) : Option Nat := (List.range hs.length).find? fun p => (List.range hs.length).all fun one => atMostM hs one p
end El

set_option Elab.async false
set_option linter.all false
set_option maxRecDepth 100000
set_option maxHeartbeats 4000000
namespace El
open PySem PySem.Spec L2
variable [LawTabs]
/-! ### len(set(pairs)) -/
def tLenSetP (K : PySem.W.Frag) (ta : TE) : TE := fun σ H Q => ta σ H fun x H1 => ∃ (l : Addr) (ks : List (Addr × List Int)), x = .ref l ∧ SqL K H1 l (ks.map fun p => V.ref p.1) ∧ (∀ p ∈ ks, SqT K H1 p.1 (p.2.map V.int)) ∧ ks.length < 64 ∧
  ∀ L : List (Addr × List Int), (∀ p ∈ L, p ∈ ks) → (∀ p ∈ ks, p.2 ∈ L.map (·.2)) → (L.map (·.2)).Nodup → Q (.int (L.length : Nat)) H1
open PyProof.Rows in
theorem klensetP {K : PySem.W.Frag} {X : Cx} {a : Expr} {ta : TE} {p p2 q pos : Pos} (hu : X.A.units + 64 < cLine) (hg : Gl X "len") (hm : X.mg "len" = none) (hg2 : Gl X "set") (hm2 : X.mg "set" = none) (ha : PE X a ta) (hc : X.calm = true := by rfl)
    (na : starEach [a] X.env = (false, eval a X.env) :: starEach [] X.env := by rfl) (hK : X.K = K := by rfl) : PE X (.Call (.Name "len" p) [.Call (.Name "set" p2) [a] [] q] [] pos) (tLenSetP K ta) := by
  subst hK
  refine ⟨fun pins s σ H Q I h => ?_⟩
  refine Call_ (ld_blt I hg hm boot_len ?_)
  refine PyProof.Rows.callWith_builtin1 (PyProof.Rows.args_cons ?_ rfl) rfl rfl
  refine Call_ (ld_blt I hg2 hm2 boot_set ?_)
  refine PyProof.Rows.callWith_type1 (PyProof.Rows.args_cons (thn (ha.run pins s σ H _ I h) fun v s1 ⟨x, H1, I1, r1, q1⟩ => PyProof.Rows.args_nil ?_) na) na rfl
  obtain ⟨l, ks, rfl, hq, hk, hf, q1⟩ := q1
  cases r1
  obtain ⟨its, rv, pl, hz⟩ := I1.list hq
  refine L2.call_set_tups (P := X.prog) (w := X.w) ks (I1.ok.hd hc) pl.isList (by simpa using L2.refs_of_vals rv) (fun p hp => I1.isT (hk p hp)) hf (by omega) fun h' tk L es ep t R g k => ?_
  refine PyProof.Rows.args_nil ?_
  obtain ⟨o, ho, hex, hd⟩ := R.ob
  have hs : es.size = L.length := by
    have h := congrArg List.length R.rows
    unfold L2.rowsOf at h
    rw [Array.length_toList, List.length_map] at h
    exact h
  have hfit : t.fits es.size = true := L2.SetTR.fits (s := { s1 with heap := h' }) R
  have I2 : Inv X pins σ H1 { s1 with heap := h', toks := tk } := I1.kept fun b o e => k b o e
  refine call_len_set ho hex hd hfit (by rw [hs]; have := R.few; omega) ⟨.int es.size, H1, I2.tok _, ⟨_, rfl⟩, ?_⟩
  have := q1 L (fun p hp => List.mem_of_mem_take (g.sub p hp)) (fun p hp => g.all p (by rw [List.take_length]; exact hp)) R.nd
  rw [hs]
  exact this
theorem ints_pr {H : Hp} {a : Addr} {x y : V} {p : Nat × Nat} (h : H a = some (.tup [x, y])) (r1 : rNat H x p.1) (r2 : rNat H y p.2) : H a = some (.tup ([(p.1 : Int), (p.2 : Int)].map V.int)) := by
  rw [h, show x = _ from r1, show y = _ from r2]
  rfl
theorem keys_pr {H : Hp} : ∀ {vs : List V} {ps : List (Nat × Nat)}, Paired (rPr rNat rNat H) vs ps → ∃ ks : List (Addr × List Int), vs = ks.map (fun p => V.ref p.1) ∧ ks.map (·.2) = ps.map (fun p => [(p.1 : Int), (p.2 : Int)]) ∧ ∀ p ∈ ks, H p.1 = some (.tup (p.2.map V.int))
  | _, _, .nil => ⟨[], rfl, rfl, fun _ h => nomatch h⟩
  | v :: vs, b :: bs, .cons ⟨a, x, y, e, h, r1, r2⟩ t => by
    obtain ⟨ks, h1, h2, h3⟩ := keys_pr t
    refine ⟨(a, [(b.1 : Int), (b.2 : Int)]) :: ks, by rw [List.map_cons, ← h1, e], by rw [List.map_cons, List.map_cons, h2], fun p hp => ?_⟩
    rcases List.mem_cons.mp hp with rfl | hp
    · exact ints_pr h r1 r2
    · exact h3 p hp
section
variable {K : PySem.W.Frag} {σ : St} {F H F' H' : Hp} {ta tb tc te : TE}
theorem ev_lenSetP {ps : List (Nat × Nat)} (ha : Ev (rLst (rPr rNat rNat)) ta σ F H ps) (hz : ps.length < 64) (nd : ps.Nodup) : Ev rInt (tLenSetP K ta) σ F H (ps.length : Int) := fun F1 H1 g1 Q q =>
  ha F1 H1 g1 _ fun v F2 H2 g2 ⟨a, vs, e, hl, p⟩ => by
    obtain ⟨ks, h1, h2, h3⟩ := keys_pr p
    have hlen : ks.length = ps.length := by
      have := congrArg List.length h2
      rw [List.length_map, List.length_map] at this
      exact this
    refine ⟨a, ks, e, by rw [← h1]; exact SqL.of (g2.fh _ _ hl), fun p hp => SqT.of (g2.fh _ _ (h3 p hp)), by omega, fun L hL1 hL2 hnd => ?_⟩
    have hks : (ks.map (·.2)).Nodup := by
      rw [h2]
      refine List.Pairwise.map _ (fun x y hxy => ?_) nd
      intro z
      apply hxy
      injection z with z1 z2
      injection z2 with z2 _
      exact Prod.ext (by omega) (by omega)
    have : (L.map (·.2)).length = (ks.map (·.2)).length := nodup_len_of_mem hnd hks fun k => ⟨fun h => by
      obtain ⟨p, hp, rfl⟩ := List.mem_map.mp h
      exact List.mem_map.mpr ⟨p, hL1 p hp, rfl⟩, fun h => by
      obtain ⟨p, hp, rfl⟩ := List.mem_map.mp h
      exact hL2 p hp⟩
    rw [List.length_map, List.length_map, hlen] at this
    rw [this]
    exact q _ F2 H2 g2 rfl
/-! ### tuples of the written part -/
def KTup (K : PySem.W.Frag) (q : Addr) (ns : List Int) : Prop := ∃ (o : Obj) (its : Array Value) (n : Nat), K.lookup q = some o ∧ o.cls = .type "tuple" ∧ o.data = .seq its n ∧ its.size ≤ sizeLine ∧ Vals (ns.map V.int) its.toList
theorem ev_ixK {q : Addr} {ns : List Int} {i x : Int} (h : KTup K q ns) (hb : Ev rInt tb σ F H i) (hx : atI ns i = some x) : Ev rInt (tOp (rIxT K) (tC (.ref q)) tb) σ F H x := fun F1 H1 g1 Q k =>
  hb F1 H1 g1 _ fun w F3 H3 g3 r2 => by
    obtain ⟨y, hy, ry⟩ := atI_paired (paired_ints (H := F3) ns) hx
    exact ⟨q, _, i, y, rfl, r2, .inr h, hy, k y F3 H3 g3 ry⟩
/-- x in (a, b) -/
theorem ev_inPr {k a b : Nat} (hk : Ev rNat ta σ F H k) (ha : Ev (rTup rNat) tb σ F H [a, b]) : Ev rBl (tOp (rIn K false) ta tb) σ F H (decide (k = a) || decide (k = b)) := fun F1 H1 g1 Q q =>
  hk F1 H1 g1 _ fun v F2 H2 g2 r => ha F2 H2 (g1.trans g2) _ fun w F3 H3 g3 ⟨p, vs, e, hp, pr⟩ => by
    cases (show v = _ from r)
    have evs := nats_eq pr
    subst evs
    refine ⟨p, _, e, .inr (SqT.of (g3.fh _ _ hp)), rfl, rfl, ?_⟩
    have : inV (V.int (k : Int)) ([a, b].map fun n : Nat => V.int (n : Int)) = (decide (k = a) || decide (k = b)) := by
      have h1 : ∀ c : Nat, ((c : Int) == (k : Int)) = decide (k = c) := fun c => by
        by_cases h : k = c
        · rw [decide_eq_true h, h]; exact beq_self_eq_true _
        · rw [decide_eq_false h]; exact beq_eq_false_iff_ne.mpr (by omega)
      show (((a : Int) == (k : Int)) || (((b : Int) == (k : Int)) || false)) = _
      rw [h1, h1, Bool.or_false]
    show Q (.bl (inV (V.int (k : Int)) ([a, b].map fun n : Nat => V.int (n : Int)))) H3
    rw [this]
    exact q _ F3 H3 (g2.trans g3) rfl
theorem ev_intB {b : Bool} (ha : Ev rBl ta σ F H b) : Ev rInt (tCB (fun xs H Q => (∃ i, xs = [.int i] ∧ Q (.int i) H) ∨ ∃ k, xs = [.bl k] ∧ Q (.int (if k then 1 else 0)) H) (tCons ta tNil)) σ F H (if b then 1 else 0) := fun F1 H1 g1 Q q =>
  ha F1 H1 g1 _ fun v F2 H2 g2 r => .inr ⟨b, by rw [show v = _ from r], q _ F2 H2 g2 rfl⟩
end
/-! ### webs -/
structure Wb where
  spots : Nat
  ties : List (Nat × Nat)
  whole : Nat
  levels : List Nat
  h0 : 1 ≤ spots
  h1 : spots ≤ 5
  h2 : ∀ p ∈ ties, p.1 < p.2 ∧ p.2 < spots
  h3 : ties.Nodup
  h4 : 1 ≤ whole
  h5 : whole ≤ 40
  h6 : levels.length = spots
  h7 : ∀ l ∈ levels, l ≤ whole
def rWeb (C : Addr) : Rp Wb := fun H v W => ∃ a dx l m, v = .ref a ∧ H a = some (.ins C dx [("spots", .int (W.spots : Int)), ("ties", l), ("whole", .int (W.whole : Int)), ("levels", m)]) ∧ rLst (rPr rNat rNat) H l W.ties ∧ rLst rNat H m W.levels
instance {C : Addr} : Mn (rWeb C) := ⟨fun e ⟨a, dx, l, m, h1, h2, h3, h4⟩ => ⟨a, dx, l, m, h1, e _ _ h2, Mn.mono e h3, Mn.mono e h4⟩⟩
instance {C : Addr} : NotN (rWeb C) := ⟨fun ⟨_, _, _, _, h, _⟩ e => by rw [h] at e; cases e⟩
theorem fld_spots {K : PySem.W.Frag} {C : Addr} (c : Cls K C) (n : NoAttr K C "spots") : IsF (rWeb C) K "spots" rNat Wb.spots := ⟨fun ⟨a, dx, l, m, h1, h2, h3, h4⟩ => ⟨a, C, dx, _, _, h1, h2, c, n, rfl, rfl⟩⟩
theorem fld_ties {K : PySem.W.Frag} {C : Addr} (c : Cls K C) (n : NoAttr K C "ties") : IsF (rWeb C) K "ties" (rLst (rPr rNat rNat)) Wb.ties := ⟨fun ⟨a, dx, l, m, h1, h2, h3, h4⟩ => ⟨a, C, dx, _, _, h1, h2, c, n, rfl, h3⟩⟩
theorem fld_whole {K : PySem.W.Frag} {C : Addr} (c : Cls K C) (n : NoAttr K C "whole") : IsF (rWeb C) K "whole" rNat Wb.whole := ⟨fun ⟨a, dx, l, m, h1, h2, h3, h4⟩ => ⟨a, C, dx, _, _, h1, h2, c, n, rfl, rfl⟩⟩
theorem fld_levels {K : PySem.W.Frag} {C : Addr} (c : Cls K C) (n : NoAttr K C "levels") : IsF (rWeb C) K "levels" (rLst rNat) Wb.levels := ⟨fun ⟨a, dx, l, m, h1, h2, h3, h4⟩ => ⟨a, C, dx, _, _, h1, h2, c, n, rfl, h4⟩⟩
def SpWeb (C : Addr) : Sp := fun vs H Q _ => ∃ (F : Hp) (a dx : Addr) (l m : V) (W : Wb), vs = [.ref a, .int (W.spots : Int), l, .int (W.whole : Int), m] ∧ ExT F H ∧ F a = none ∧ H a = some (.ins C dx []) ∧ rLst (rPr rNat rNat) F l W.ties ∧ rLst rNat F m W.levels ∧
  ∀ F' H', Gr (M1 a) F H F' H' → rWeb C F' (.ref a) W → Q .non H'
instance {C : Addr} : SpLen (SpWeb C) 5 := ⟨fun ⟨_, _, _, _, _, _, h, _⟩ => by rw [h]; rfl⟩
theorem ev_Web {σ : St} {F H : Hp} {ta tb tc td : TE} {C : Addr} {W : Wb} {E : XK} (ha : Ev rInt ta σ F H (W.spots : Int)) (hb : Ev (rLst (rPr rNat rNat)) tb σ F H W.ties) (hc : Ev rInt tc σ F H (W.whole : Int)) (hd : Ev (rLst rNat) td σ F H W.levels) :
    Ev (rWeb C) (tMake C (SpWeb C) [] E (tCons ta (tCons tb (tCons tc (tCons td tNil))))) σ F H W := fun F1 H1 g1 Q q =>
  ha F1 H1 g1 _ fun v F2 H2 g2 r => hb F2 H2 (g1.trans g2) _ fun w F3 H3 g3 r3 => hc F3 H3 ((g1.trans g2).trans g3) _ fun u F4 H4 g4 r4 => hd F4 H4 (((g1.trans g2).trans g3).trans g4) _ fun z F5 H5 g5 r5 => fun x dx nx ndx nex => by
    cases (show v = _ from r)
    cases (show u = _ from r4)
    have e1 : ExT F5 (upd (upd H5 dx (.own x)) x (.ins C dx [])) := g5.fh.make nx ndx nex.symm
    exact ⟨F5, x, dx, w, z, W, rfl, e1, g5.fh.free nx, upd_same, Mn.mono (g4.ff.trans g5.ff) r3, r5, fun F' H' g k => ⟨rfl, q _ F' H' ((((g2.trans g3).trans g4).trans g5).trans (.made (M := M0) nx ndx nex.symm g)) k⟩⟩
end El

set_option Elab.async false
set_option linter.all false
set_option maxRecDepth 100000
set_option maxHeartbeats 4000000
namespace El
open PySem PySem.Spec L2
variable [LawTabs]
def upB (p s : Nat) : Bool := decide (p / 2 ^ s % 2 = 1)
def pairsM (n : Nat) : List (Nat × Nat) := ((List.range (2 ^ n)).map fun p => ((List.range n).filter fun s => !upB p s).map fun s => (p, p + 2 ^ s)).flatten
def hsM (n : Nat) : List (List Nat) := aboveM (2 ^ n) (pairsM n)
def subB (n x y : Nat) : Bool := (List.range n).all fun s => upB y s || !upB x s
def factsB (n : Nat) (hs : List (List Nat)) : Bool :=
  (leastM hs == some 0) && (greatestM hs == some (2 ^ n - 1)) && ((List.range (2 ^ n)).all fun x => !decide (x ∈ hs.getD x [])) && ((List.range (2 ^ n)).all fun x => (List.range (2 ^ n)).all fun y => atMostM hs x y == subB n x y)
def pairsB (n : Nat) : Bool := decide ((pairsM n).length ≤ 100) && (pairsM n).all fun p => decide (p.1 < 2 ^ n) && decide (p.2 < 2 ^ n) && !decide (p.1 = p.2)
def hs1 : List (List Nat) := [[1], []]
theorem hs1_eq : hsM 1 = hs1 := by decide +kernel
theorem facts1 : factsB 1 hs1 = true := by decide +kernel
theorem pairs1 : pairsB 1 = true := by decide +kernel
def hs2 : List (List Nat) := [[2, 3, 1], [3], [3], []]
theorem hs2_eq : hsM 2 = hs2 := by decide +kernel
theorem facts2 : factsB 2 hs2 = true := by decide +kernel
theorem pairs2 : pairsB 2 = true := by decide +kernel
def hs3 : List (List Nat) := [[4, 6, 7, 5, 2, 3, 1], [5, 7, 3], [6, 7, 3], [7], [6, 7, 5], [7], [7], []]
theorem hs3_eq : hsM 3 = hs3 := by decide +kernel
theorem facts3 : factsB 3 hs3 = true := by decide +kernel
theorem pairs3 : pairsB 3 = true := by decide +kernel
def hs4 : List (List Nat) := [[8, 12, 14, 15, 13, 10, 11, 9, 4, 6, 7, 5, 2, 3, 1], [9, 13, 15, 11, 5, 7, 3], [10, 14, 15, 11, 6, 7, 3], [11, 15, 7], [12, 14, 15, 13, 6, 7, 5], [13, 15, 7], [14, 15, 7], [15], [12, 14, 15, 13, 10, 11, 9], [13, 15, 11], [14, 15, 11], [15], [14, 15, 13], [15], [15], []]
theorem hs4_eq : hsM 4 = hs4 := by decide +kernel
theorem facts4 : factsB 4 hs4 = true := by decide +kernel
theorem pairs4 : pairsB 4 = true := by decide +kernel
def hs5 : List (List Nat) := [[16, 24, 28, 30, 31, 29, 26, 27, 25, 20, 22, 23, 21, 18, 19, 17, 8, 12, 14, 15, 13, 10, 11, 9, 4, 6, 7, 5, 2, 3, 1], [17, 25, 29, 31, 27, 21, 23, 19, 9, 13, 15, 11, 5, 7, 3], [18, 26, 30, 31, 27, 22, 23, 19, 10, 14, 15, 11, 6, 7, 3], [19, 27, 31, 23, 11, 15, 7], [20, 28, 30, 31, 29, 22, 23, 21, 12, 14, 15, 13, 6, 7, 5], [21, 29, 31, 23, 13, 15, 7], [22, 30, 31, 23, 14, 15, 7], [23, 31, 15], [24, 28, 30, 31, 29, 26, 27, 25, 12, 14, 15, 13, 10, 11, 9], [25, 29, 31, 27, 13, 15, 11], [26, 30, 31, 27, 14, 15, 11], [27, 31, 15], [28, 30, 31, 29, 14, 15, 13], [29, 31, 15], [30, 31, 15], [31], [24, 28, 30, 31, 29, 26, 27, 25, 20, 22, 23, 21, 18, 19, 17], [25, 29, 31, 27, 21, 23, 19], [26, 30, 31, 27, 22, 23, 19], [27, 31, 23], [28, 30, 31, 29, 22, 23, 21], [29, 31, 23], [30, 31, 23], [31], [28, 30, 31, 29, 26, 27, 25], [29, 31, 27], [30, 31, 27], [31], [30, 31, 29], [31], [31], []]
theorem hs5_eq : hsM 5 = hs5 := by decide +kernel
theorem facts5 : factsB 5 hs5 = true := by decide +kernel
theorem pairs5 : pairsB 5 = true := by decide +kernel
theorem facts {n : Nat} (h0 : 1 ≤ n) (h1 : n ≤ 5) : factsB n (hsM n) = true := by
  match n, h0, h1 with
  | 1, _, _ => rw [hs1_eq]; exact facts1
  | 2, _, _ => rw [hs2_eq]; exact facts2
  | 3, _, _ => rw [hs3_eq]; exact facts3
  | 4, _, _ => rw [hs4_eq]; exact facts4
  | 5, _, _ => rw [hs5_eq]; exact facts5
theorem pairs_ok {n : Nat} (h0 : 1 ≤ n) (h1 : n ≤ 5) : pairsB n = true := by
  match n, h0, h1 with
  | 1, _, _ => exact pairs1
  | 2, _, _ => exact pairs2
  | 3, _, _ => exact pairs3
  | 4, _, _ => exact pairs4
  | 5, _, _ => exact pairs5
theorem pow_le {n : Nat} (h1 : n ≤ 5) : 2 ^ n ≤ 32 := by
  have : 2 ^ n ≤ 2 ^ 5 := Nat.pow_le_pow_right (by decide) h1
  exact this
theorem hs_least {n : Nat} (h0 : 1 ≤ n) (h1 : n ≤ 5) : leastM (hsM n) = some 0 := by
  have := facts h0 h1
  unfold factsB at this
  simp only [Bool.and_eq_true, beq_iff_eq] at this
  exact this.1.1.1
theorem hs_greatest {n : Nat} (h0 : 1 ≤ n) (h1 : n ≤ 5) : greatestM (hsM n) = some (2 ^ n - 1) := by
  have := facts h0 h1
  unfold factsB at this
  simp only [Bool.and_eq_true, beq_iff_eq] at this
  exact this.1.1.2
theorem hs_irr {n : Nat} (h0 : 1 ≤ n) (h1 : n ≤ 5) : ∀ x, x < 2 ^ n → x ∉ (hsM n).getD x [] := fun x hx hm => by
  have := facts h0 h1
  unfold factsB at this
  simp only [Bool.and_eq_true] at this
  have h2 := List.all_eq_true.mp this.1.2 x (List.mem_range.mpr hx)
  rw [decide_eq_true hm] at h2
  cases h2
theorem hs_sub {n : Nat} (h0 : 1 ≤ n) (h1 : n ≤ 5) {x y : Nat} (hx : x < 2 ^ n) (hy : y < 2 ^ n) : atMostM (hsM n) x y = subB n x y := by
  have := facts h0 h1
  unfold factsB at this
  simp only [Bool.and_eq_true] at this
  have h2 := List.all_eq_true.mp this.2 x (List.mem_range.mpr hx)
  have h3 := List.all_eq_true.mp h2 y (List.mem_range.mpr hy)
  exact beq_iff_eq.mp h3
theorem good_pairs {n : Nat} (h0 : 1 ≤ n) (h1 : n ≤ 5) : GoodO (2 ^ n) (pairsM n) := by
  have hp := pairs_ok h0 h1
  unfold pairsB at hp
  rw [Bool.and_eq_true] at hp
  refine ⟨Nat.one_le_two_pow, pow_le h1, of_decide_eq_true hp.1, fun p h => ?_, hs_irr h0 h1⟩
  have := List.all_eq_true.mp hp.2 p h
  simp only [Bool.and_eq_true, Bool.not_eq_true', decide_eq_true_eq, decide_eq_false_iff_not] at this
  exact ⟨this.1.1, this.1.2, this.2⟩
/-! ### moving -/
def tiedM (ties : List (Nat × Nat)) (s : Nat) : List Nat := (ties.filter fun x => decide (s = x.1) || decide (s = x.2)).map fun x => x.1 + x.2 - s
def countM (ties : List (Nat × Nat)) (p s : Nat) : Nat := ((tiedM ties s).filter fun y => upB p y).length
def standB (W : Wb) (p s k : Nat) : Bool := decide (k < W.levels.getD (countM W.ties p s) 0)
def movedM (W : Wb) (p s k : Nat) : Nat := p + (if standB W p s k then 2 ^ s else 0) - (if upB p s then 2 ^ s else 0)
theorem up_le {p s : Nat} (h : upB p s = true) : 2 ^ s ≤ p := by
  have h1 : p / 2 ^ s % 2 = 1 := of_decide_eq_true h
  have h2 : 1 ≤ p / 2 ^ s := by
    rcases Nat.eq_zero_or_pos (p / 2 ^ s) with h | h
    · rw [h] at h1; cases h1
    · exact h
  have h3 := (Nat.le_div_iff_mul_le (Nat.two_pow_pos s)).mp h2
  omega
theorem moved_int {W : Wb} {p s k : Nat} : (p : Int) + ((if standB W p s k then 1 else 0) - (if upB p s then 1 else 0)) * ((2 ^ s : Nat) : Int) = (movedM W p s k : Int) := by
  unfold movedM
  have hu := fun h : upB p s = true => up_le h
  revert hu
  generalize 2 ^ s = q
  intro hu
  cases h1 : standB W p s k <;> cases h2 : upB p s
  · simp
  · have := hu h2
    simp only [Bool.false_eq_true, if_false, if_true]
    omega
  · simp
  · have := hu h2
    simp only [if_true]
    omega
theorem add_lt : ((List.range 6).all fun n => (List.range n).all fun s => (List.range (2 ^ n)).all fun p => upB p s || decide (p + 2 ^ s < 2 ^ n)) = true := by decide +kernel
theorem moved_lt {W : Wb} {p s k : Nat} (hp : p < 2 ^ W.spots) (hs : s < W.spots) : movedM W p s k < 2 ^ W.spots := by
  have h1 := W.h1
  have h := List.all_eq_true.mp (List.all_eq_true.mp (List.all_eq_true.mp add_lt W.spots (List.mem_range.mpr (by omega))) s (List.mem_range.mpr hs)) p (List.mem_range.mpr hp)
  unfold movedM
  have hu := fun h : upB p s = true => up_le h
  have hq : upB p s = false → p + 2 ^ s < 2 ^ W.spots := fun h2 => by
    rw [h2] at h
    exact of_decide_eq_true h
  revert hu hq hp
  generalize 2 ^ s = q
  generalize 2 ^ W.spots = N
  intro hp hu hq
  cases h1 : standB W p s k <;> cases h2 : upB p s
  · simpa using hp
  · simp only [Bool.false_eq_true, if_false, if_true]
    omega
  · simpa using hq h2
  · simp only [if_true]
    omega
theorem tied_mem {W : Wb} {s y : Nat} (h : y ∈ tiedM W.ties s) : y < W.spots ∧ y ≠ s := by
  unfold tiedM at h
  obtain ⟨x, hx, rfl⟩ := List.mem_map.mp h
  obtain ⟨h1, h2⟩ := List.mem_filter.mp hx
  obtain ⟨h3, h4⟩ := W.h2 x h1
  rw [Bool.or_eq_true, decide_eq_true_eq, decide_eq_true_eq] at h2
  omega
theorem tied_nodup {W : Wb} {s : Nat} : (tiedM W.ties s).Nodup := by
  unfold tiedM
  have nd : (W.ties.filter fun x => decide (s = x.1) || decide (s = x.2)).Nodup := W.h3.filter _
  have hm : ∀ x ∈ (W.ties.filter fun x => decide (s = x.1) || decide (s = x.2)), (s = x.1 ∨ s = x.2) ∧ x.1 < x.2 := fun x hx => by
    obtain ⟨h1, h2⟩ := List.mem_filter.mp hx
    rw [Bool.or_eq_true, decide_eq_true_eq, decide_eq_true_eq] at h2
    exact ⟨h2, (W.h2 x h1).1⟩
  revert nd hm
  generalize (W.ties.filter fun x => decide (s = x.1) || decide (s = x.2)) = l
  intro nd hm
  rw [List.Nodup, List.pairwise_map]
  refine List.Pairwise.imp_of_mem (fun {x y} hx hy hne => ?_) nd
  intro z
  apply hne
  obtain ⟨a1, a2⟩ := hm x hx
  obtain ⟨b1, b2⟩ := hm y hy
  exact Prod.ext (by omega) (by omega)
theorem tied_len {W : Wb} {s : Nat} (hs : s < W.spots) : (tiedM W.ties s).length < W.spots := by
  have nd : (s :: tiedM W.ties s).Nodup := List.nodup_cons.mpr ⟨fun h => (tied_mem h).2 rfl, tied_nodup⟩
  have := nodup_lt nd fun y hy => by
    rcases List.mem_cons.mp hy with rfl | h
    · exact hs
    · exact (tied_mem h).1
  rw [List.length_cons] at this
  omega
theorem count_lt {W : Wb} {p s : Nat} (hs : s < W.spots) : countM W.ties p s < W.spots := by
  unfold countM
  have := List.length_filter_le (fun y => upB p y) (tiedM W.ties s)
  have := tied_len hs
  omega
def turnsML (W : Wb) : List (List Nat) := ((List.range W.spots).map fun s => (List.range W.whole).map fun k => (List.range (2 ^ W.spots)).map fun p => movedM W p s k).flatten
theorem flat_const {α : Type} {c : Nat} : ∀ {ls : List (List α)}, (∀ l ∈ ls, l.length = c) → ls.flatten.length = ls.length * c
  | [], _ => by simp
  | l :: ls, h => by
    rw [List.flatten_cons, List.length_append, flat_const fun m hm => h m (List.mem_cons_of_mem _ hm), h l List.mem_cons_self, List.length_cons, Nat.succ_mul]
    omega
theorem turns_len {W : Wb} : (turnsML W).length = W.spots * W.whole := by
  unfold turnsML
  rw [flat_const (c := W.whole) fun l hl => by obtain ⟨s, _, rfl⟩ := List.mem_map.mp hl; rw [List.length_map, List.length_range], List.length_map, List.length_range]
def turnsM (W : Wb) : Tn where
  many := 2 ^ W.spots
  maps := turnsML W
  h0 := Nat.one_le_two_pow
  h1 := pow_le W.h1
  h2 := by rw [turns_len]; exact Nat.mul_pos W.h0 W.h4
  h3 := by rw [turns_len]; exact Nat.mul_le_mul W.h1 W.h5
  h4 := fun m hm => by
    obtain ⟨l, hl, hm⟩ := List.mem_flatten.mp hm
    obtain ⟨s, hs, rfl⟩ := List.mem_map.mp hl
    obtain ⟨k, hk, rfl⟩ := List.mem_map.mp hm
    refine ⟨by rw [List.length_map, List.length_range], fun x hx => ?_⟩
    obtain ⟨p, hp, rfl⟩ := List.mem_map.mp hx
    exact moved_lt (List.mem_range.mp hp) (List.mem_range.mp hs)
theorem ties_len (W : Wb) : W.ties.length ≤ 25 := by
  have h1 := W.h1
  have nd : (W.ties.map fun p => p.1 * 5 + p.2).Nodup := by
    rw [List.Nodup, List.pairwise_map]
    refine List.Pairwise.imp_of_mem (fun {x y} hx hy hne => ?_) W.h3
    intro z
    apply hne
    have a := W.h2 x hx
    have b := W.h2 y hy
    exact Prod.ext (by omega) (by omega)
  have := nodup_lt (n := 25) nd fun y hy => by
    obtain ⟨p, hp, rfl⟩ := List.mem_map.mp hy
    have := W.h2 p hp
    omega
  rw [List.length_map] at this
  exact this
theorem worth {s : Nat} (h : s < 6) : atI ([1, 2, 4, 8, 16, 32] : List Int) (s : Int) = some ((2 ^ s : Nat) : Int) := by
  match s, h with
  | 0, _ => rfl
  | 1, _ => rfl
  | 2, _ => rfl
  | 3, _ => rfl
  | 4, _ => rfl
  | 5, _ => rfl
end El

set_option Elab.async false
set_option linter.all false
set_option maxRecDepth 100000
set_option maxHeartbeats 4000000
namespace El
open PySem PySem.Spec PySem.W L2
variable [LawTabs]
section
variable {prog : Program} {w : World} {A : Around} {E : Value → Shared → Prop} {s : Shared} {K : Frag} {x C L f : Addr} {h₀ : Heap} {m : Str → Option Value} {ox : Obj} {od : Option Obj} {b : Value}
/-- object.__ne__ of an instance whose class has its own __eq__ -/
theorem objNe_K (X : K.In s.heap) (I : InstAt s.heap x ox C od) (hs : findIn K (.ref C) "__eq__" = some (some (.ref f))) (hf : isFn K (.ref f) = true) (hu : A.units < cLine) {Q : Fin → Shared → Prop}
    (hcall : wpAny (model prog w) A (call (.ref f) [.ref x, b]) (fun v s' => ∃ c, v = .bool c ∧ Q (.done (.ret (.bool (!c)))) s') E s) : wpAny (model prog w) A (Builtin.«object.__ne__» ⟨[.ref x, b], []⟩) Q E s := by
  unfold Builtin.«object.__ne__»
  obtain ⟨hp, g, d, t, os⟩ := s
  repeat (first
    | with_reducible refine wpAny_cRoomFor hu ?_
    | (refine wpAny_bind (m := callSpecialIfBound? (.ref x) (Str.ofString "__eq__") [b])
        (ifBound_K X I hs hf (wpAny_mono hcall (fun v s' hr => by
          obtain ⟨c, rfl, hq⟩ := hr
          repeat (first | exact hq | exact wpAny_pure hq | exact wpAny_truthy_bool hq | (refine wpAny_bind (m := truthy (.bool _)) (wpAny_truthy_bool ?_)) | wp_step)) fun _ _ e => e)))
    | wp_step)
theorem tryNe_K (X : K.In s.heap) (I : InstAt s.heap x ox C od) (hne : findIn K (.ref C) "__ne__" = some (some (.builtin "object.__ne__"))) (hm : mroIn K C (.type "object") = some true)
    (hs : findIn K (.ref C) "__eq__" = some (some (.ref f))) (hf : isFn K (.ref f) = true) (hu : A.in1.units < cLine) {Q : Option Value → Shared → Prop}
    (hcall : wpAny (model prog w) A.in1 (call (.ref f) [.ref x, b]) (fun v s' => ∃ c, v = .bool c ∧ Q (some (.bool (!c))) s') E s) : wpAny (model prog w) A (tryCompare (.ref x) "__ne__" b) Q E s := by
  have FB := PySem.F.cmp_object
  have sub : Looks (model prog w) s.heap (isInstance (.ref x) (.type "object")) true := I.type.andThen (looks_mroIn X hm)
  have one : wpAny (model prog w) A (call (.builtin "object.__ne__") [.ref x, b]) (fun v s' => ∃ c, v = .bool c ∧ Q (some (.bool c)) s') E s :=
    wpAny_call (codeAny_call_builtin FB.ne.plain PySem.F.cmpEntry_ne (@check_slot (model prog w) _ _ s "object.__ne__" "object" "__ne__" (.ref x) [b] [] _ PySem.F.cmpKind_ne PySem.F.cmpSplit_ne sub (PySem.F.cmpArgs_ne (.ref x) b)
      (objNe_K X I hs hf hu (wpAny_mono hcall (fun v s' hv => by
        obtain ⟨c, rfl, hq⟩ := hv
        exact ⟨c, rfl, ⟨!c, rfl, hq⟩⟩) fun _ _ e => e))))
  unfold tryCompare
  refine wpAny_bind ?_
  simp only [callSpecialIfBound?, bindSpecialIfBound?]
  refine wpAny_holding (wpAny_bind (wpAny_bind (wpAny_bind (I.type.here ((looks_findIn X hne).here ?_)))))
  simp only [FB.ne.bind]
  refine wpAny_bind (wpAny_askSetting (wpAny_ite ?_))
  have fin : wpAny (model prog w) A (call (.builtin "object.__ne__") ([.ref x] ++ [b]) >>= fun v => pure (some v)) (fun v s' => ∃ c, v = some (.bool c) ∧ Q (some (.bool c)) s') E s :=
    wpAny_bind (wpAny_mono one (fun v s' h' => by obtain ⟨c, rfl, hq⟩ := h'; exact wpAny_pure ⟨c, rfl, hq⟩) fun _ _ h' => h')
  have back : ∀ (v : Option Value) s', (∃ c, v = some (Value.bool c) ∧ Q (some (.bool c)) s') → wpAny (model prog w) A (match v with | some .notImplemented => pure none | v => pure v) Q E s' := fun v s' ⟨c, e, hq⟩ => by
    subst e
    exact wpAny_pure hq
  split
  · exact wpAny_bind (wpAny_pure (wpAny_pure (wpAny_mono fin (fun v s' h' => by obtain ⟨c, rfl, hq⟩ := h'; exact wpAny_pure hq) fun _ _ e => e)))
  · exact wpAny_tryCatch (wpAny_bind (wpAny_pure (wpAny_pure (wpAny_mono fin (fun v s' h' => by obtain ⟨c, rfl, hq⟩ := h'; exact wpAny_pure hq) fun _ _ e => e))))
theorem richNe_K (F : PyProof.Rows.Fr h₀ L s.heap m) (X₀ : K.In h₀) (I : InstAt s.heap x ox C od) (hb : Looks (model prog w) s.heap (typeOf b) (.ref C)) (hne : findIn K (.ref C) "__ne__" = some (some (.builtin "object.__ne__"))) (hm : mroIn K C (.type "object") = some true)
    (hs : findIn K (.ref C) "__eq__" = some (some (.ref f))) (hf : isFn K (.ref f) = true) (hu : A.units < cLine) (hu1 : A.in1.units < cLine) {Q : Value → Shared → Prop}
    (hcall : wpAny (model prog w) A.in1 (call (.ref f) [.ref x, b]) (fun v s' => ∃ c, v = .bool c ∧ Q (.bool (!c)) s') E s) : wpAny (model prog w) A (richCompare .NotEq (.ref x) b) Q E s := by
  have X := X₀.keeps F.keep
  have one : wpAny (model prog w) A (tryCompare (.ref x) "__ne__" b) (fun r s' => ∃ v, r = some v ∧ Q v s') E s := tryNe_K X I hne hm hs hf hu1 (wpAny_mono hcall (fun v s' hv => by
    obtain ⟨c, rfl, hq⟩ := hv
    exact ⟨c, rfl, _, rfl, hq⟩) fun _ _ e => e)
  unfold richCompare
  simp only [oneThing_ref]
  refine wpAny_holding (wpAny_bind (wpAny_cRoomFor hu ?_))
  rw [cmpInfo_NotEq]
  dsimp only
  refine wpAny_bind (I.type.here (wpAny_bind (hb.here ?_)))
  rw [show (Value.ref C != Value.ref C) = false from by simp]
  simp only [Bool.false_eq_true, if_false]
  refine wpAny_bind (wpAny_pure ?_)
  simp only [Bool.false_eq_true, if_false]
  refine wpAny_bind (wpAny_mono one (fun r s' z => ?_) fun _ _ e => e)
  obtain ⟨v, rfl, hq⟩ := z
  exact wpAny_pure hq
end
/-- x != y, by the class's own ==, which says they are equal -/
def rNeG (D : Eqv) : R2 := fun x y H Q => D x y H ∧ ∀ H', Ext H H' → Q (.bl false) H'
theorem op_neG {X : Cx} {CX : CXT} {n : Nat} {C f : Addr} {fd : FuncData} {ps : List Str} {R : Addr → Addr → Hp → Prop} {E : XK} (F : FnOk X.prog X.w X.K X.mg X.base CX n f fd ps (spEq R))
    (hs : findIn X.K (.ref C) "__eq__" = some (some (.ref f))) (hf : isFn X.K (.ref f) = true) (hne : findIn X.K (.ref C) "__ne__" = some (some (.builtin "object.__ne__"))) (hm : mroIn X.K C (.type "object") = some true) (hb : Binds X.K fd ps []) (hx : Passes CX X E) (hr : Room (n + 1) X.A) : OpR X (compareOp .NotEq) (rNeG (DIns C R)) := by
  intro pins s σ H x y v u Q I rx ry hq
  obtain ⟨d, q⟩ := hq
  show wpAny (model X.prog X.w) X.A (richCompare .NotEq v u) (EP X pins σ Q) X.xe s
  obtain ⟨a, b, dx, dy, fs, gs, rfl, rfl, ha, hb', hr'⟩ := d
  cases rx
  cases ry
  obtain ⟨mA, J, _⟩ := ins_get I.hok ha
  obtain ⟨mB, J', _⟩ := ins_get I.hok hb'
  obtain ⟨od, J, _⟩ := J.look
  obtain ⟨od', J', _⟩ := J'.look
  obtain ⟨m, hF⟩ := I.fr
  have hu1 := hr.in1.units
  have hu2 := hr.units
  refine richNe_K hF I.ok.mod.kin J J'.type hne hm hs hf (by omega) (by omega) ?_
  have hsp : spEq R [.ref a, .ref b] H (fun v H' => v = .bl true ∧ Ext H H') E := ⟨a, b, rfl, hr', fun H' e => ⟨rfl, e⟩⟩
  have e0 : Env0 X.prog X.w X.K X.mg X.base X.A.in1 X.stack s H := by
    have e := I.env0
    exact ⟨e.frames, e.mod, e.bs, e.bsz, e.funs, e.frf, e.hok, e.bare⟩
  have hl := F.len _ _ _ _ hsp
  have r2 : Vals [V.ref a, V.ref b] [Value.ref a, Value.ref b] := .cons rfl (.cons rfl .nil)
  refine wpAny_call (codeAny_mono (F.run X.A.in1 X.stack s H ⟨[.ref a, .ref b], []⟩ [.ref a, .ref b] [.ref a, .ref b] _ E hr.in1 e0 (by
    have := hb s [.ref a, .ref b] I.kIn (by simpa using hl)
    simpa using this) r2 hsp) fun r s' hq => ?_)
  cases r with
  | error e => exact hx pins σ H s e s' I hq
  | ok fl =>
    cases fl with
    | ret w =>
      obtain ⟨z, H', I', rz, ez, ex⟩ := I.after hq
      subst ez
      cases rz
      exact ⟨true, rfl, .bl false, H', I', rfl, q H' ex⟩
    | next => exact False.elim hq
    | brk => exact False.elim hq
    | cont => exact False.elim hq
theorem ev_neTurns {σ : St} {F H : Hp} {ta tb : TE} {C : Addr} {t : Tn} (ha : Ev (rTurns C) ta σ F H t) (hb : Ev (rTurns C) tb σ F H t) : Ev rBl (tOp (rNeG (DIns C (REq C))) ta tb) σ F H false := fun F1 H1 g1 Q q =>
  ha F1 H1 g1 _ fun v F2 H2 g2 r => hb F2 H2 (g1.trans g2) _ fun w F3 H3 g3 r2 => by
    have r' := Mn.mono g3.ff r
    have r3 := r'
    have r4 := r2
    obtain ⟨a, dx, l, rfl, h1, h2⟩ := r3
    obtain ⟨b, dy, l', rfl, h3, h4⟩ := r4
    exact ⟨⟨a, b, dx, dy, _, _, rfl, rfl, g3.fh _ _ h1, g3.fh _ _ h3, F3, t, g3.fh, r', r2⟩, fun H' x => q _ _ H' ((g2.trans g3).trans (Gr.ext g3.fh x)) rfl⟩
end El

set_option Elab.async false
set_option linter.all false
set_option maxRecDepth 100000
set_option maxHeartbeats 4000000
namespace El
open PySem PySem.Spec L2
variable [LawTabs]
/-! ### tuples of four -/
def r4 {α β γ δ : Type} (R : Rp α) (S : Rp β) (T : Rp γ) (U : Rp δ) : Rp (α × β × γ × δ) := fun H v p => ∃ a x y z u, v = .ref a ∧ H a = some (.tup [x, y, z, u]) ∧ R H x p.1 ∧ S H y p.2.1 ∧ T H z p.2.2.1 ∧ U H u p.2.2.2
instance {α β γ δ : Type} {R : Rp α} {S : Rp β} {T : Rp γ} {U : Rp δ} [m : Mn R] [n : Mn S] [o : Mn T] [q : Mn U] : Mn (r4 R S T U) := ⟨fun e ⟨a, x, y, z, u, h1, h2, h3, h4, h5, h6⟩ => ⟨a, x, y, z, u, h1, e _ _ h2, m.mono e h3, n.mono e h4, o.mono e h5, q.mono e h6⟩⟩
instance {α β γ δ : Type} {R : Rp α} {S : Rp β} {T : Rp γ} {U : Rp δ} [d1 : Dt R] [d2 : Dt S] [d3 : Dt T] [d4 : Dt U] : Dt (r4 R S T U) where
  data := fun p => .tuple [d1.data p.1, d2.data p.2.1, d3.data p.2.2.1, d4.data p.2.2.2]
  rep := fun e ⟨a, x, y, z, u, h1, h2, h3, h4, h5, h6⟩ => by
    subst h1
    exact .tup (SqT.of (e _ _ h2)) (.cons (d1.rep e h3) (.cons (d2.rep e h4) (.cons (d3.rep e h5) (.cons (d4.rep e h6) .nil))))
  lay := fun p => by
    show (PyData.canLay0 (d1.data p.1) && (PyData.canLay0 (d2.data p.2.1) && (PyData.canLay0 (d3.data p.2.2.1) && (PyData.canLay0 (d4.data p.2.2.2) && true)))) = true
    rw [d1.lay, d2.lay, d3.lay, d4.lay]
    rfl
  dep := 1 + max d1.dep (max d2.dep (max d3.dep d4.dep))
  depth := fun p => by
    have h1 := d1.depth p.1
    have h2 := d2.depth p.2.1
    have h3 := d3.depth p.2.2.1
    have h4 := d4.depth p.2.2.2
    show max (PyData.depth (d1.data p.1)) (max (PyData.depth (d2.data p.2.1)) (max (PyData.depth (d3.data p.2.2.1)) (max (PyData.depth (d4.data p.2.2.2)) 0))) + 1 ≤ _
    omega
  eqv := fun x y => by
    show (PyData.eqv (d1.data x.1) (d1.data y.1) && (PyData.eqv (d2.data x.2.1) (d2.data y.2.1) && (PyData.eqv (d3.data x.2.2.1) (d3.data y.2.2.1) && (PyData.eqv (d4.data x.2.2.2) (d4.data y.2.2.2) && true)))) = true ↔ _
    rw [Bool.and_eq_true, Bool.and_eq_true, Bool.and_eq_true, Bool.and_true, d1.eqv, d2.eqv, d3.eqv, d4.eqv]
    obtain ⟨a, b, c, d⟩ := x
    obtain ⟨a', b', c', d'⟩ := y
    simp
theorem Paired.erase {α β : Type} {F : α → β → Prop} : ∀ {as : List α} {bs : List β} (n : Nat), Paired F as bs → Paired F (as.eraseIdx n) (bs.eraseIdx n)
  | _, _, _, .nil => .nil
  | _, _, 0, .cons _ t => t
  | _, _, n + 1, .cons r t => .cons r (Paired.erase n t)
theorem erase_perm {α : Type} : ∀ {l : List α} {i : Nat} {x : α}, l[i]? = some x → (x :: l.eraseIdx i).Perm l
  | [], i, x, h => by simp at h
  | a :: l, 0, x, h => by simp at h; subst h; exact .refl _
  | a :: l, i + 1, x, h => (List.Perm.swap a x _).trans (.cons a (erase_perm (by simpa using h)))
theorem seqIx {d len : Nat} (h : d < len) : seqIndex? (d : Int) len = some d := by
  unfold seqIndex?
  simp
  omega
def Sp5 {α β γ δ ε ζ : Type} (R : Rp α) (S : Rp β) (T : Rp γ) (U : Rp δ) (X : Rp ζ) (Pre : α → β → γ → δ → ζ → Prop) (W : Rp ε) (f : α → β → γ → δ → ζ → ε) : Sp := fun vs H Q _ => ∃ F v w u u' u'' x y z z' z'', vs = [v, w, u, u', u''] ∧ ExT F H ∧ R F v x ∧ S F w y ∧ T F u z ∧ U F u' z' ∧ X F u'' z'' ∧ Pre x y z z' z'' ∧ ∀ r F' H', Gr M0 F H F' H' → W F' r (f x y z z' z'') → Q r H'
instance {α β γ δ ε ζ : Type} {R : Rp α} {S : Rp β} {T : Rp γ} {U : Rp δ} {X : Rp ζ} {W : Rp ε} {p : α → β → γ → δ → ζ → Prop} {f : α → β → γ → δ → ζ → ε} : SpLen (Sp5 R S T U X p W f) 5 := ⟨fun ⟨_, _, _, _, _, _, _, _, _, _, _, h, _⟩ => by rw [h]; rfl⟩
section
variable {K : PySem.W.Frag} {σ : St} {F H F' H' : Hp} {ta tb tc td te tl tx : TE} {tt : TT} {α β γ δ ε ζ : Type} {R : Rp α} {S : Rp β} {T : Rp γ} {U : Rp δ} {X : Rp ζ} {W : Rp ε} {x : α} {y : β} {z : γ} {u : δ} {o : ζ} {xs : List α} {ys : List β} {a : Addr} {c N : Nat} {D : Ends} {ts : TS} {E : XK}
theorem ev_call5 {Pre : α → β → γ → δ → ζ → Prop} {f : α → β → γ → δ → ζ → ε} (ha : Ev R ta σ F H x) (hb : Ev S tb σ F H y) (hc : Ev T tc σ F H z) (hd : Ev U td σ F H u) (hx : Ev X tx σ F H o) (p : Pre x y z u o) (m : Mn R := by infer_instance) (n : Mn S := by infer_instance) (m2 : Mn T := by infer_instance) (m3 : Mn U := by infer_instance) :
    Ev W (tCall (Sp5 R S T U X Pre W f) [] E (tCons ta (tCons tb (tCons tc (tCons td (tCons tx tNil)))))) σ F H (f x y z u o) := fun F1 H1 g1 Q q =>
  ha F1 H1 g1 _ fun v F2 H2 g2 r1 => hb F2 H2 (g1.trans g2) _ fun w F3 H3 g3 r2 => hc F3 H3 ((g1.trans g2).trans g3) _ fun v3 F4 H4 g4 r3 => hd F4 H4 (((g1.trans g2).trans g3).trans g4) _ fun v4 F5 H5 g5 r4 => hx F5 H5 ((((g1.trans g2).trans g3).trans g4).trans g5) _ fun v5 F6 H6 g6 r5 =>
    ⟨F6, v, w, v3, v4, v5, x, y, z, u, o, rfl, g6.fh, m.mono (g3.ff.trans (g4.ff.trans (g5.ff.trans g6.ff))) r1, n.mono (g4.ff.trans (g5.ff.trans g6.ff)) r2, m2.mono (g5.ff.trans g6.ff) r3, m3.mono g6.ff r4, r5, p, fun r F' H' g k => q r F' H' (g2.trans (g3.trans (g4.trans (g5.trans (g6.trans g))))) k⟩
/-- a tuple of four, as an expression -/
theorem ev_r4 (ha : Ev R ta σ F H x) (hb : Ev S tb σ F H y) (hc : Ev T tc σ F H z) (hd : Ev U td σ F H u) (m : Mn R := by infer_instance) (n : Mn S := by infer_instance) (m2 : Mn T := by infer_instance) (m3 : Mn U := by infer_instance) :
    Ev (r4 R S T U) (tTup (tCons ta (tCons tb (tCons tc (tCons td tNil))))) σ F H (x, y, z, u) := fun F1 H1 g1 Q q =>
  ha F1 H1 g1 _ fun v F2 H2 g2 r1 => hb F2 H2 (g1.trans g2) _ fun w F3 H3 g3 r2 => hc F3 H3 ((g1.trans g2).trans g3) _ fun v3 F4 H4 g4 r3 => hd F4 H4 (((g1.trans g2).trans g3).trans g4) _ fun v4 F5 H5 g5 r4 =>
    ⟨by show 4 ≤ sizeLine; decide, fun B hB => by
      have g6 : Gr M0 F5 H5 (upd F5 B (.tup [v, w, v3, v4])) (upd H5 B (.tup [v, w, v3, v4])) := .new g5.fh hB
      exact q _ _ _ (g2.trans (g3.trans (g4.trans (g5.trans g6)))) ⟨B, v, w, v3, v4, rfl, upd_same, m.mono (g3.ff.trans (g4.ff.trans (g5.ff.trans g6.ff))) r1, n.mono (g4.ff.trans (g5.ff.trans g6.ff)) r2, m2.mono (g5.ff.trans g6.ff) r3, m3.mono g6.ff r4⟩⟩
theorem es_r4 {P1 : α → Prop} {P2 : β → Prop} {P3 : γ → Prop} {P4 : δ → Prop} {c1 c2 c3 c4 : Nat} (ha : EvS a c1 R ta σ F H P1) (hb : EvS a c2 S tb σ F H P2) (hc : EvS a c3 T tc σ F H P3) (hd : EvS a c4 U td σ F H P4) (m : Mn R := by infer_instance) (n : Mn S := by infer_instance) (m2 : Mn T := by infer_instance) (m3 : Mn U := by infer_instance) :
    EvS a (c1 + c2 + c3 + c4) (r4 R S T U) (tTup (tCons ta (tCons tb (tCons tc (tCons td tNil))))) σ F H (fun p => P1 p.1 ∧ P2 p.2.1 ∧ P3 p.2.2.1 ∧ P4 p.2.2.2) := fun F1 H1 N g fa s Q q =>
  ha F1 H1 (N + c4 + c3 + c2) g fa (s.le (by omega)) _ fun v x F2 H2 g2 fa2 s2 p1 r1 => hb F2 H2 (N + c4 + c3) (g.trans g2) fa2 s2 _ fun w y F3 H3 g3 fa3 s3 p2 r2 => hc F3 H3 (N + c4) ((g.trans g2).trans g3) fa3 s3 _ fun v3 z F4 H4 g4 fa4 s4 p3 r3 => hd F4 H4 N (((g.trans g2).trans g3).trans g4) fa4 s4 _ fun v4 u F5 H5 g5 fa5 s5 p4 r4 =>
    ⟨by show 4 ≤ sizeLine; decide, fun B hB => by
      have g6 : Gr M0 F5 H5 (upd F5 B (.tup [v, w, v3, v4])) (upd H5 B (.tup [v, w, v3, v4])) := .new g5.fh hB
      obtain ⟨o, ho⟩ := s5.someO
      exact q _ (x, y, z, u) _ _ (g2.trans (g3.trans (g4.trans (g5.trans g6.up)))) (g6.nn ho fa5) (s5.gr g6) ⟨p1, p2, p3, p4⟩ ⟨B, v, w, v3, v4, rfl, upd_same, m.mono (g3.ff.trans (g4.ff.trans (g5.ff.trans g6.ff))) r1, n.mono (g4.ff.trans (g5.ff.trans g6.ff)) r2, m2.mono (g5.ff.trans g6.ff) r3, m3.mono g6.ff r4⟩⟩
/-- x, y, z, u = e, e a tuple of four -/
theorem x_quadS {i j k l : Nat} {P : α × β × γ × δ → Prop} (h : EvS a c (r4 R S T U) te σ F H P) (e : ExT F H) (fa : F a = none) (s : Src H a N) (hc : c ≤ N)
    (kk : ∀ v w v3 v4 x F' H', Gr (M1 a) F H F' H' → F' a = none → Src H' a (N - c) → P x → R F' v x.1 → S F' w x.2.1 → T F' v3 x.2.2.1 → U F' v4 x.2.2.2 → D.nx ((((σ.set i (some v)).set j (some w)).set k (some v3)).set l (some v4)) H') : tAsg te (gTup K 4 (gCons (gName i) (gCons (gName j) (gCons (gName k) (gCons (gName l) gNil))))) D σ H :=
  h F H (N - c) (.refl e) fa (s.le (by omega)) _ fun v x F' H' g fa' s' p ⟨b, u1, u2, u3, u4, eb, hb, r1, r2, r3, r4⟩ => by
    subst eb
    exact ⟨b, [u1, u2, u3, u4], rfl, SqT.of (g.fh _ _ hb), rfl, u1, [u2, u3, u4], rfl, u2, [u3, u4], rfl, u3, [u4], rfl, u4, [], rfl, rfl, kk u1 u2 u3 u4 x F' H' g fa' s' p r1 r2 r3 r4⟩
/-- xs.extend(e), e a draw -/
theorem x_extS {l : Addr} {i : Nat} {P : List α → Prop} {vs : List V} (hne : l ≠ a) (h : EvS a c (rLst R) te σ F H P) (e : ExT F H) (fa : F a = none) (s : Src H a N) (hc : c ≤ N) (hv : σ[i]? = some (some (.ref l))) (hl : H l = some (.lst vs)) (hz : ∀ zs, P zs → vs.length + zs.length ≤ sizeLine)
    (k : ∀ ws zs F' H', Gr (M1 a) F H F' H' → F' a = none → Src H' a (N - c) → P zs → Paired (R F') ws zs → H' l = some (.lst vs) → D.nx σ (upd H' l (.lst (vs ++ ws)))) : tDrop (tBM K "list" rExtend (tVar i) (tCons te tNil)) D σ H :=
  ⟨.ref l, hv, .inl ⟨rfl, vs, SqL.of hl⟩, h F H (N - c) (.refl e) fa (s.le (by omega)) _ fun w zs F' H' g fa' s' p ⟨b, ws, eb, hb, pr⟩ => by
    subst eb
    exact ⟨l, b, vs, ws, rfl, rfl, g.hh _ _ hne hl, g.fh _ _ hb, by rw [pr.length]; exact hz zs p, k ws zs F' H' g fa' s' p pr (g.hh _ _ hne hl)⟩⟩
/-- [elt for k in range(m, n) if test], the test a draw -/
theorem es_lcR2F {j B m n c2 : Nat} {vs : List Nat} (f : Nat → β) (ha : ∀ F1 H1, Gr (M1 a) F H F1 H1 → F1 a = none → Ev rInt ta σ F1 H1 (m : Int)) (hb : ∀ F1 H1, Gr (M1 a) F H F1 H1 → F1 a = none → Ev rInt tb σ F1 H1 (n : Int)) (hB : n - m ≤ B) (hB2 : B ≤ 1000000) (hm : m ≤ 1000000) (hn : n ≤ 1000000) (hw : ∀ v, wipe ((wipe σ vs).set j (some v)) vs = wipe σ vs)
    (ht : ∀ i : Nat, m + i < n → ∀ F1 H1, Gr (M1 a) F H F1 H1 → F1 a = none → EvTS a c2 tt ((wipe σ vs).set j (some (.int ((m + i : Nat) : Int)))) F1 H1 (fun _ => True))
    (he : ∀ i : Nat, m + i < n → ∀ F1 H1, Gr (M1 a) F H F1 H1 → F1 a = none → Ev S te ((wipe σ vs).set j (some (.int ((m + i : Nat) : Int)))) F1 H1 (f (m + i))) (m' : Mn S := by infer_instance) :
    EvS a (B * c2) (rLst S) (tLc (iRng2 (tCons ta (tCons tb tNil))) (gName j) tt te vs) σ F H (fun l => ∃ is : List Nat, l = is.map f ∧ is.Nodup ∧ is.length ≤ n - m ∧ ∀ i ∈ is, m ≤ i ∧ i < n) := by
  intro F1 H1 N g1 fa s Q q
  obtain ⟨o1, ho1⟩ := s.someO
  refine ha F1 H1 g1 fa F1 H1 (.refl g1.fh) _ fun v F2 H2 g2 ea => ?_
  have fa2 := g2.nn ho1 fa
  have s2 := s.gr g2
  obtain ⟨o2, ho2⟩ := s2.someO
  refine hb F2 H2 (g1.trans g2.up) fa2 F2 H2 (.refl g2.fh) _ fun w F3 H3 g3 eb => ?_
  have fa3 := g3.nn ho2 fa2
  have s3 := s2.gr g3
  have g123 := g1.trans (g2.trans g3).up
  refine ⟨(m : Int), (n : Int), by rw [show v = _ from ea, show w = _ from eb], ⟨by omega, by omega, by omega, by omega⟩, fun B' hD => ?_⟩
  rw [show ((n : Int) - (m : Int)).toNat = n - m by omega]
  have hne : B' ≠ a := fun z => by
    subst z
    exact s3.hn hD
  refine lc_range (lo := (m : Int)) (n := n - m) (fun i H' => ∃ F' us is, Gr (M1 a) F3 H3 F' H' ∧ F' a = none ∧ Src H' a (N + (B - i) * c2) ∧ F' B' = none ∧ H' B' = some (.lst us) ∧ is.length ≤ i ∧ Paired (S F') us (is.map f) ∧ is.Nodup ∧ ∀ t ∈ is, m ≤ t ∧ t < m + i)
    ⟨F3, [], [], .loc g3.fh hD, fa3, (by rw [Nat.sub_zero]; exact s3.ex (upd_ne hne.symm)), g3.fh.free hD, upd_same, Nat.le_refl _, .nil, List.nodup_nil, fun t h => nomatch h⟩ ?_ ?_
  · rintro i H' hi ⟨F', us, is, g, fa', s', fD, hD', hl, pu, nd, hP⟩
    have e0 : (m : Int) + (i : Int) = ((m + i : Nat) : Int) := by omega
    rw [e0]
    refine ⟨hw _, ?_⟩
    have hbb : (B - i) * c2 = (B - (i + 1)) * c2 + c2 := by
      rw [show B - i = (B - (i + 1)) + 1 by omega, Nat.succ_mul]
    refine ht i (by omega) F' H' (g123.trans g) fa' F' H' (N + (B - (i + 1)) * c2) (.refl g.fh) fa' (s'.le (by omega)) _ fun b F4 H4 g4 fa4 s4 _ => ?_
    have hD4 : H4 B' = some (.lst us) := g4.hh _ _ hne hD'
    have fD4 : F4 B' = none := g4.nw B' hne (by rw [hD']; exact fun z => nomatch z) fD
    cases b with
    | false => exact ⟨F4, us, is, g.trans g4, fa4, s4, fD4, hD4, by omega, Paired.up g4.ff pu, nd, fun t ht => by have := hP t ht; omega⟩
    | true =>
      refine he i (by omega) F4 H4 (g123.trans (g.trans g4)) fa4 F4 H4 (.refl g4.fh) _ fun u5 F5 H5 g5 r5 => ?_
      obtain ⟨o4, ho4⟩ := s4.someO
      have hD5 := g5.hx _ _ hD4
      have fD5 := g5.nn hD4 fD4
      refine ⟨us, hD5, ?_, F5, us ++ [u5], is ++ [m + i], ((g.trans g4).trans g5.up).set' fD5 (.inl hD), g5.nn ho4 fa4, (s4.gr g5).ex (upd_ne hne.symm), fD5, upd_same, by rw [List.length_append]; show _ + 1 ≤ _; omega, ?_, ?_, fun t ht => ?_⟩
      · rw [pu.length, List.length_map, sizeLine_eq]
        omega
      · rw [List.map_append]
        exact (Paired.up (g4.ff.trans g5.ff) pu).snoc r5
      · refine List.nodup_append.mpr ⟨nd, by simp, fun x hx y hy => ?_⟩
        rw [List.mem_singleton.mp hy]
        have := hP x hx
        omega
      · rcases List.mem_append.mp ht with h | h
        · have := hP t h; omega
        · rw [List.mem_singleton.mp h]; omega
  · rintro H' ⟨F', us, is, g, fa', s', fD, hD', hl, pu, nd, hP⟩
    exact q _ (is.map f) _ _ ((g2.trans g3).up.trans (g.frz hD' (g3.fh.free hD) (.inl hD))) (by rw [upd_ne hne.symm]; exact fa') (s'.le (Nat.le_add_right _ _)) ⟨is, rfl, nd, hl, fun t ht => by have := hP t ht; omega⟩ ⟨B', us, rfl, upd_same, Paired.up (g.fh.frz hD' fD) pu⟩
/-- [elt for x, y in zip(xs, ys)] -/
theorem ev_lcZ {zs : List γ} {i j : Nat} {vs : List Nat} (ha : Ev (rLst R) ta σ F H xs) (hb : Ev (rLst S) tb σ F H ys) (hlen : zs.length = min xs.length ys.length) (hz : zs.length ≤ 1000000) (hw : ∀ v w, wipe (((wipe σ vs).set i (some v)).set j (some w)) vs = wipe σ vs)
    (he : ∀ (n : Nat) x y z v w F1 H1, xs[n]? = some x → ys[n]? = some y → zs[n]? = some z → Gr M0 F H F1 H1 → R F1 v x → S F1 w y → Ev T te (((wipe σ vs).set i (some v)).set j (some w)) F1 H1 z) (m : Mn R := by infer_instance) (m2 : Mn S := by infer_instance) (m' : Mn T := by infer_instance) :
    Ev (rLst T) (tLc (iZip K (tCons ta (tCons tb tNil))) (gTup K 2 (gCons (gName i) (gCons (gName j) gNil))) tYes te vs) σ F H zs := by
  intro F1 H1 g1 Q q
  refine ha F1 H1 g1 _ fun v F2 H2 g2 ⟨a, ws, ea, hl, pr⟩ => hb F2 H2 (g1.trans g2) _ fun v2 F3 H3 g3 ⟨b, us2, eb, hl2, pr2⟩ => ⟨a, b, ws, us2, by rw [ea, eb], SqL.of (g3.fh _ _ (g3.ff _ _ hl)), SqL.of (g3.fh _ _ hl2), fun D hD => ?_⟩
  refine lc_it (walk_zip (n := zs.length) (by rw [pr.length, pr2.length]; exact hlen)) (fun i H' => ∃ F' us, Gr M0 F3 H3 F' H' ∧ F' D = none ∧ H' D = some (.lst us) ∧ Paired (T F') us (zs.take i)) ⟨F3, [], .loc g3.fh hD, g3.fh.free hD, upd_same, .nil⟩ (fun i H' _ ⟨F', us, g, _⟩ => ⟨SqL.of (g.fh _ _ (g.ff _ _ (g3.ff _ _ hl))), SqL.of (g.fh _ _ (g.ff _ _ hl2))⟩) ?_ ?_
  · rintro n w H' H4 hi ⟨F', us, g, fD, hD', pu⟩ ⟨B, u1, u2, rfl, hT, rfl, h1, h2⟩
    obtain ⟨x, hx, rx⟩ := Paired.getL pr h1
    obtain ⟨y, hy, ry⟩ := Paired.getL pr2 h2
    have hzn : zs[n]? = some zs[n] := List.getElem?_eq_getElem hi
    have gB : Gr M0 F' H' (upd F' B (.tup [u1, u2])) (upd H' B (.tup [u1, u2])) := .new g.fh hT
    have hBD : B ≠ D := fun z => by subst z; rw [hD'] at hT; cases hT
    refine ⟨B, [u1, u2], rfl, SqT.of upd_same, rfl, u1, [u2], rfl, u2, [], rfl, rfl, hw _ _, ?_⟩
    refine he n x y zs[n] u1 u2 _ _ hx hy hzn ((((g1.trans g2).trans g3).trans g).trans gB) (m.mono ((g3.ff.trans g.ff).trans gB.ff) rx) (m2.mono (g.ff.trans gB.ff) ry) _ _ (.refl gB.fh) _ fun u F5 H5 g5 r5 => ?_
    have hD2 := gB.hx _ _ hD'
    have g45 := gB.trans g5
    refine ⟨us, g45.hx _ _ hD', ?_, F5, us ++ [u], (g.trans g45).set' (g45.nn hD' fD) (.inl hD), g45.nn hD' fD, upd_same, ?_⟩
    · rw [pu.length, List.length_take, sizeLine_eq]
      omega
    · rw [List.take_add_one, hzn]
      exact (Paired.up g45.ff pu).snoc r5
  · rintro H' ⟨F', us, g, fD, hD', pu⟩
    rw [List.take_length] at pu
    exact q _ _ _ ((g2.trans g3).trans (g.frz hD' (g3.fh.free hD) (.inl hD))) ⟨D, us, rfl, upd_same, Paired.up (g.fh.frz hD' fD) pu⟩
theorem kzip {e e2 : Expr} {ta : TA} {p pos tpos : Pos} {elts : List Expr} {kk : Nat} {X : Cx} (hg : Gl X "zip") (hm : X.mg "zip" = none) (ha : PA X [e, e2] ta)
    (hs : starEach [e, e2] X.env = (false, eval e X.env) :: starEach [e2] X.env := by rfl) (hpl : (backTo pos (starEach [e2] X.env)).any (·.1) = false := by rfl) (hK : X.K = K := by rfl) :
    PI X (.Tuple elts kk tpos) (.Call (.Name "zip" p) [e, e2] [] pos) (iZip K ta) := by
  subst hK
  exact pi_zip hg hm ha hs hpl
end
end El

set_option Elab.async false
set_option linter.all false
set_option maxRecDepth 100000
set_option maxHeartbeats 4000000
namespace El
open PySem PySem.Spec L2
variable [LawTabs]
def upsM (p n : Nat) : List Bool := (List.range n).map (upB p)
def placeM (us : List Bool) : Nat := us.foldr (fun b a => 2 * a + (if b = true then 1 else 0)) 0
def besideM (ties : List (Nat × Nat)) (s : Nat) : List Nat := ((ties.filter fun x => decide (x.1 = s)).map (·.2)) ++ ((ties.filter fun x => decide (x.2 = s)).map (·.1))
def lcntM (ups : List Bool) (ties : List (Nat × Nat)) (s : Nat) : Nat := ((besideM ties s).filter fun o => ups.getD o false).length
def lmovedM (ups : List Bool) (ties : List (Nat × Nat)) (levels : List Nat) (s k : Nat) : List Bool := ups.set s (decide (k < levels.getD (lcntM ups ties s) 0))
def mvM (ties : List (Nat × Nat)) (levels : List Nat) (p s k : Nat) : Nat := p + (if decide (k < levels.getD (countM ties p s) 0) = true then 2 ^ s else 0) - (if upB p s = true then 2 ^ s else 0)
def lmapsM (spots : Nat) (ties : List (Nat × Nat)) (whole : Nat) (levels : List Nat) (many : Nat) : List (List Nat) := ((List.range spots).map fun s => (List.range whole).map fun k => (List.range many).map fun p => mvM ties levels p s k).flatten
theorem lmaps_eq (W : Wb) : lmapsM W.spots W.ties W.whole W.levels (2 ^ W.spots) = turnsML W := rfl
theorem beside_len (g : Nat → Bool) (s : Nat) : ∀ ties : List (Nat × Nat), (∀ x ∈ ties, x.1 < x.2) → ((besideM ties s).filter g).length = ((tiedM ties s).filter g).length
  | [], _ => rfl
  | x :: l, h => by
    have ih := beside_len g s l fun y hy => h y (List.mem_cons_of_mem _ hy)
    have hx := h x List.mem_cons_self
    unfold besideM tiedM at ih ⊢
    rw [List.filter_append, List.length_append] at ih ⊢
    rw [List.filter_cons, List.filter_cons, List.filter_cons]
    by_cases h1 : x.1 = s
    · have h2 : x.2 ≠ s := by omega
      rw [if_pos (decide_eq_true h1), if_neg (by rw [decide_eq_false h2]; exact Bool.false_ne_true), if_pos (by rw [decide_eq_true h1.symm]; rfl), List.map_cons, List.map_cons, List.filter_cons, List.filter_cons, show x.1 + x.2 - s = x.2 by omega]
      split
      · rw [List.length_cons, List.length_cons]; omega
      · exact ih
    · by_cases h2 : x.2 = s
      · rw [if_neg (by rw [decide_eq_false h1]; exact Bool.false_ne_true), if_pos (decide_eq_true h2), if_pos (by rw [decide_eq_true h2.symm]; exact Bool.or_true _), List.map_cons, List.map_cons, List.filter_cons, List.filter_cons, show x.1 + x.2 - s = x.1 by omega]
        split
        · rw [List.length_cons, List.length_cons]; omega
        · exact ih
      · rw [if_neg (by rw [decide_eq_false h1]; exact Bool.false_ne_true), if_neg (by rw [decide_eq_false h2]; exact Bool.false_ne_true), if_neg (by rw [decide_eq_false (fun z => h1 z.symm), decide_eq_false (fun z => h2 z.symm)]; exact Bool.false_ne_true)]
        exact ih
theorem ups_len {p n : Nat} : (upsM p n).length = n := by unfold upsM; rw [List.length_map, List.length_range]
theorem ups_get {p n s : Nat} (h : s < n) : (upsM p n).getD s false = upB p s := by
  unfold upsM
  rw [List.getD_eq_getElem?_getD, List.getElem?_map, List.getElem?_range h]
  rfl
theorem ups_at {p n s : Nat} (h : s < n) : (upsM p n)[s]? = some (upB p s) := by
  unfold upsM
  rw [List.getElem?_map, List.getElem?_range h]
  rfl
theorem beside_mem {W : Wb} {s y : Nat} (h : y ∈ besideM W.ties s) : y < W.spots := by
  unfold besideM at h
  rcases List.mem_append.mp h with h | h
  · obtain ⟨x, hx, rfl⟩ := List.mem_map.mp h
    exact (W.h2 x (List.mem_filter.mp hx).1).2
  · obtain ⟨x, hx, rfl⟩ := List.mem_map.mp h
    have := W.h2 x (List.mem_filter.mp hx).1
    omega
theorem beside_le {W : Wb} {s : Nat} : (besideM W.ties s).length ≤ 50 := by
  unfold besideM
  have := ties_len W
  have h1 := List.length_filter_le (fun x : Nat × Nat => decide (x.1 = s)) W.ties
  have h2 := List.length_filter_le (fun x : Nat × Nat => decide (x.2 = s)) W.ties
  rw [List.length_append, List.length_map, List.length_map]
  omega
theorem lcnt_eq {W : Wb} {p s : Nat} : lcntM (upsM p W.spots) W.ties s = countM W.ties p s := by
  unfold lcntM countM
  rw [beside_len (fun o => (upsM p W.spots).getD o false) s W.ties fun x hx => (W.h2 x hx).1]
  congr 1
  refine List.filter_congr fun y hy => ?_
  exact ups_get (tied_mem hy).1
theorem set_all : ((List.range 6).all fun n => (List.range n).all fun s => (List.range (2 ^ n)).all fun p => [true, false].all fun b => placeM ((upsM p n).set s b) == p + (if b = true then 2 ^ s else 0) - (if upB p s = true then 2 ^ s else 0)) = true := by decide +kernel
theorem lmoved_eq {W : Wb} {p s k : Nat} (hp : p < 2 ^ W.spots) (hs : s < W.spots) : placeM (lmovedM (upsM p W.spots) W.ties W.levels s k) = mvM W.ties W.levels p s k := by
  have h1 := W.h1
  have h := List.all_eq_true.mp (List.all_eq_true.mp (List.all_eq_true.mp set_all W.spots (List.mem_range.mpr (by omega))) s (List.mem_range.mpr hs)) p (List.mem_range.mpr hp)
  have h2 := List.all_eq_true.mp h (decide (k < W.levels.getD (countM W.ties p s) 0)) (by cases decide (k < W.levels.getD (countM W.ties p s) 0) <;> simp)
  unfold lmovedM mvM
  rw [lcnt_eq]
  exact beq_iff_eq.mp h2
theorem full_all : ((List.range 6).all fun n => placeM (List.replicate n true) + 1 == 2 ^ n) = true := by decide +kernel
theorem full_eq {n : Nat} (h : n ≤ 5) : placeM (List.replicate n true) + 1 = 2 ^ n := beq_iff_eq.mp (List.all_eq_true.mp full_all n (List.mem_range.mpr (by omega)))
theorem place_le {us : List Bool} : placeM us < 2 ^ us.length := by
  induction us with
  | nil => decide
  | cons b us ih =>
    show 2 * placeM us + (if b = true then 1 else 0) < 2 ^ (us.length + 1)
    rw [Nat.pow_succ]
    split <;> omega
end El

set_option Elab.async false
set_option linter.all false
set_option maxRecDepth 100000
set_option maxHeartbeats 4000000
namespace El
open PySem PySem.Spec L2
variable [LawTabs]
/-! ### Base.__init__(self, ..), Base an own class that has ValueError's -/
structure BaseC (K : PySem.W.Frag) (B : Addr) : Prop where
  ga : PySem.W.specialIn K (.ref B) "__getattribute__" = some (some (.builtin "type.__getattribute__"))
  rd : PySem.W.readsIn K B (.type "type") = true
  ty : PySem.W.typeIn K (.ref B) = some (.type "type")
  ini : PySem.W.findCls K (.ref B) (.type "type") "__init__" = some (.val (.builtin "ValueError.__init__"))
section
variable {X : Cx} {e : Expr} {es : List Expr} {ta : TA} {p1 p2 pos : Pos}
theorem pe_dinit {pl : Sem Bool} {x : Str} {B : Addr} (T : BaseC X.K B) (hg : Gl X x) (hm : X.mg x = some (.ref B)) (ha : PA X (e :: es) ta)
    (hc : eval (.Call (.Attribute (.Name x p1) "__init__" p2) (e :: es) [] pos) X.env = (do
      let ov ← eval (.Name x p1) X.env
      standAt p2.atName
      let (f, first) ← holding [ov] (getMethod ov "__init__" pl)
      callWith pos f first (backTo pos (starEach (e :: es) X.env)) (backToKw pos (keywordEach [] X.env))) := by rfl)
    (he : starEach (e :: es) X.env = (false, eval e X.env) :: starEach es X.env := by rfl) (hpl : (backTo pos (starEach es X.env)).any (·.1) = false := by rfl) (hdb : (x == ("__debug__" : Str)) = false := by decide) :
    PE X (.Call (.Attribute (.Name x p1) "__init__" p2) (e :: es) [] pos) (tVeI X.K ta) := by
  refine ⟨fun pins s σ H Q I h => ?_⟩
  refine PySem.W.methodCall_KW (ld_glob I hg hm ?_ hdb) hc
  obtain ⟨m, fr⟩ := I.fr
  refine PySem.W.method_of_cls fr I.ok.mod.kin T.ga (PySem.W.cls_val fr I.ok.mod.kin T.ty T.rd T.ini (by decide +kernel) ?_)
  show wpAny _ _ (callWith pos (Value.builtin "ValueError.__init__") [] (backTo pos (starEach (e :: es) X.env)) []) _ _ _
  refine PyProof.Rows.callWith_method1 (thn (ha.run pos pins _ σ H _ (I.tok _) h) fun us s1 ⟨vs, H1, I1, r1, a, C, ws, ev, hl, T, ea, q⟩ => ?_) he hpl
  subst ev
  cases r1 with
  | @cons _ u0 _ ur ra rw' =>
    obtain rfl : u0 = Value.ref a := ra
    have hlen : ur.length ≤ sizeLine := by
      rw [← Paired.length rw', sizeLine_eq]
      omega
    exact oinit_ok T I1 ea hlen fun s' J => ⟨.non, H1, J, rfl, q⟩
end
end El

set_option Elab.async false
set_option linter.all false
set_option maxRecDepth 100000
set_option maxHeartbeats 4000000
namespace El
open PySem PySem.Spec L2
variable [LawTabs]
/-! ### sorted -/
def insN (a : Nat) : List Nat → List Nat
  | [] => [a]
  | b :: l => if a ≤ b then a :: b :: l else b :: insN a l
def sortN (l : List Nat) : List Nat := l.foldr insN []
theorem ins_perm (a : Nat) : ∀ l : List Nat, (insN a l).Perm (a :: l)
  | [] => .refl _
  | b :: l => by
    show (if a ≤ b then a :: b :: l else b :: insN a l).Perm _
    split
    · exact .refl _
    · exact ((ins_perm a l).cons b).trans (.swap a b l)
theorem sort_perm : ∀ l : List Nat, (sortN l).Perm l
  | [] => .refl _
  | a :: l => (ins_perm a (sortN l)).trans ((sort_perm l).cons a)
theorem ins_sorted {a : Nat} : ∀ {l : List Nat}, l.Pairwise (· ≤ ·) → (insN a l).Pairwise (· ≤ ·)
  | [], _ => List.pairwise_singleton _ _
  | b :: l, h => by
    obtain ⟨h1, h2⟩ := List.pairwise_cons.mp h
    show (if a ≤ b then a :: b :: l else b :: insN a l).Pairwise _
    split
    · rename_i hab
      refine List.pairwise_cons.mpr ⟨fun c hc => ?_, h⟩
      rcases List.mem_cons.mp hc with rfl | hc
      · exact hab
      · exact Nat.le_trans hab (h1 c hc)
    · rename_i hab
      refine List.pairwise_cons.mpr ⟨fun c hc => ?_, ins_sorted h2⟩
      rcases List.mem_cons.mp ((ins_perm a l).mem_iff.mp hc) with rfl | hc
      · omega
      · exact h1 c hc
theorem sort_sorted : ∀ l : List Nat, (sortN l).Pairwise (· ≤ ·)
  | [] => .nil
  | _ :: l => ins_sorted (sort_sorted l)
theorem sorted_eq : ∀ {l m : List Nat}, l.Perm m → l.Pairwise (· ≤ ·) → m.Pairwise (· ≤ ·) → l = m
  | [], m, p, _, _ => by rw [p.nil_eq]
  | a :: l, [], p, _, _ => by have := p.length_eq; cases this
  | a :: l, b :: m, p, h1, h2 => by
    obtain ⟨a1, a2⟩ := List.pairwise_cons.mp h1
    obtain ⟨b1, b2⟩ := List.pairwise_cons.mp h2
    have e : a = b := by
      have ha : a ∈ b :: m := p.mem_iff.mp List.mem_cons_self
      have hb : b ∈ a :: l := p.mem_iff.mpr List.mem_cons_self
      rcases List.mem_cons.mp ha with h | h
      · exact h
      · rcases List.mem_cons.mp hb with h' | h'
        · exact h'.symm
        · have := b1 a h; have := a1 b h'; omega
    subst e
    rw [sorted_eq (List.Perm.cons_inv p) a2 b2]
theorem sort_mem {l : List Nat} {x : Nat} : x ∈ sortN l ↔ x ∈ l := (sort_perm l).mem_iff
theorem ints_nats : ∀ {ks : List Int} {ns : List Nat}, ks.Perm (ns.map fun n : Nat => (n : Int)) → ∃ ms : List Nat, ks = ms.map fun n : Nat => (n : Int) := fun {ks ns} p => by
  have : ∀ k ∈ ks, ∃ n : Nat, k = (n : Int) := fun k hk => by
    obtain ⟨n, _, rfl⟩ := List.mem_map.mp (p.mem_iff.mp hk)
    exact ⟨n, rfl⟩
  clear p
  induction ks with
  | nil => exact ⟨[], rfl⟩
  | cons k ks ih =>
    obtain ⟨n, rfl⟩ := this k List.mem_cons_self
    obtain ⟨ms, rfl⟩ := ih fun j hj => this j (List.mem_cons_of_mem _ hj)
    exact ⟨n :: ms, rfl⟩
theorem perm_nats : ∀ {ms ns : List Nat}, (ms.map fun n : Nat => (n : Int)).Perm (ns.map fun n : Nat => (n : Int)) → ms.Perm ns := fun {ms ns} p => by
  have h := p.map Int.toNat
  rw [List.map_map, List.map_map] at h
  have e : ∀ l : List Nat, l.map (Int.toNat ∘ fun n : Nat => (n : Int)) = l := fun l => by
    have : l.map (Int.toNat ∘ fun n : Nat => (n : Int)) = l.map id := List.map_congr_left fun n _ => Int.toNat_natCast n
    rw [this, List.map_id]
  rw [e, e] at h
  exact h
theorem sorted_ints {ys : List Int} {ks : List Nat} (p : ys.Perm (ks.map fun n : Nat => (n : Int))) (h : ys.Pairwise (· ≤ ·)) : ys = (sortN ks).map fun n : Nat => (n : Int) := by
  obtain ⟨ms, rfl⟩ := ints_nats p
  have p2 := perm_nats p
  rw [List.pairwise_map] at h
  rw [sorted_eq (p2.trans (sort_perm ks).symm) (h.imp fun {a b} hab => by omega) (sort_sorted ks)]
section
variable {K : PySem.W.Frag} {σ : St} {F H F' H' : Hp} {ta td te tl : TE} {ks : List Nat}
theorem ev_sortD (hd : Ev rDct td σ F H ks) (hz : ks.length < 64) : Ev (rLst rNat) (tCB (fun xs H Q => ∃ (a : Addr) (kvs : List (Key × V)) (ks : List Int), xs = [.ref a] ∧ Rd H a (.dK kvs) ∧ kvs.map (·.1) = ks.map Sum.inl ∧ ks.length < 64 ∧
    ∀ (ys : List Int) (p : Addr), ys.Perm ks → ys.Pairwise (· ≤ ·) → H p = none → Q (.ref p) (upd H p (.lst (ys.map V.int)))) (tCons td tNil)) σ F H (sortN ks) := fun F1 H1 g1 Q q =>
  hd F1 H1 g1 _ fun v F2 H2 g2 ⟨a, e, h⟩ => ⟨a, kvsOf ks, ks.map fun n : Nat => (n : Int), by rw [e], .inl (g2.fh _ _ h), by unfold kvsOf; rw [List.map_map, List.map_map]; rfl, by rw [List.length_map]; exact hz, fun ys p hp hs hn => by
    rw [sorted_ints hp hs, List.map_map]
    exact q _ _ _ (g2.trans (.new g2.fh hn)) ⟨p, _, rfl, upd_same, nats_P _ _⟩⟩
theorem ev_sortL (hd : Ev (rLst rNat) td σ F H ks) (hz : ks.length < 64) : Ev (rLst rNat) (tCB (rSorted K) (tCons td tNil)) σ F H (sortN ks) := fun F1 H1 g1 Q q =>
  hd F1 H1 g1 _ fun v F2 H2 g2 ⟨a, vs, e, h, p⟩ => ⟨a, ks.map fun n : Nat => (n : Int), by rw [e], by rw [← nats_paired p]; exact SqL.of (g2.fh _ _ h), by rw [List.length_map]; exact hz, fun ys p hp hs hn => by
    rw [sorted_ints hp hs, List.map_map]
    exact q _ _ _ (g2.trans (.new g2.fh hn)) ⟨p, _, rfl, upd_same, nats_P _ _⟩⟩
end
end El

set_option Elab.async false
set_option linter.all false
set_option maxRecDepth 100000
set_option maxHeartbeats 4000000
namespace El
open PySem PySem.Spec L2
variable [LawTabs]
/-! ### tuples of three -/
def r3 {α β γ : Type} (R : Rp α) (S : Rp β) (T : Rp γ) : Rp (α × β × γ) := fun H v p => ∃ a x y z, v = .ref a ∧ H a = some (.tup [x, y, z]) ∧ R H x p.1 ∧ S H y p.2.1 ∧ T H z p.2.2
instance {α β γ : Type} {R : Rp α} {S : Rp β} {T : Rp γ} [m : Mn R] [n : Mn S] [o : Mn T] : Mn (r3 R S T) := ⟨fun e ⟨a, x, y, z, h1, h2, h3, h4, h5⟩ => ⟨a, x, y, z, h1, e _ _ h2, m.mono e h3, n.mono e h4, o.mono e h5⟩⟩
instance {α β γ : Type} {R : Rp α} {S : Rp β} {T : Rp γ} : NotN (r3 R S T) := ⟨fun ⟨_, _, _, _, h, _⟩ e => by rw [h] at e; cases e⟩
instance {α β γ : Type} {R : Rp α} {S : Rp β} {T : Rp γ} [d1 : Dt R] [d2 : Dt S] [d3 : Dt T] : Dt (r3 R S T) where
  data := fun p => .tuple [d1.data p.1, d2.data p.2.1, d3.data p.2.2]
  rep := fun e ⟨a, x, y, z, h1, h2, h3, h4, h5⟩ => by
    subst h1
    exact .tup (SqT.of (e _ _ h2)) (.cons (d1.rep e h3) (.cons (d2.rep e h4) (.cons (d3.rep e h5) .nil)))
  lay := fun p => by
    show (PyData.canLay0 (d1.data p.1) && (PyData.canLay0 (d2.data p.2.1) && (PyData.canLay0 (d3.data p.2.2) && true))) = true
    rw [d1.lay, d2.lay, d3.lay]
    rfl
  dep := 1 + max d1.dep (max d2.dep d3.dep)
  depth := fun p => by
    have h1 := d1.depth p.1
    have h2 := d2.depth p.2.1
    have h3 := d3.depth p.2.2
    show max (PyData.depth (d1.data p.1)) (max (PyData.depth (d2.data p.2.1)) (max (PyData.depth (d3.data p.2.2)) 0)) + 1 ≤ _
    omega
  eqv := fun x y => by
    show (PyData.eqv (d1.data x.1) (d1.data y.1) && (PyData.eqv (d2.data x.2.1) (d2.data y.2.1) && (PyData.eqv (d3.data x.2.2) (d3.data y.2.2) && true))) = true ↔ _
    rw [Bool.and_eq_true, Bool.and_eq_true, Bool.and_true, d1.eqv, d2.eqv, d3.eqv]
    obtain ⟨a, b, c⟩ := x
    obtain ⟨a', b', c'⟩ := y
    simp
instance {α β γ : Type} {R : Rp α} {S : Rp β} {T : Rp γ} [d1 : Dt R] [d2 : Dt S] [d3 : Dt T] : NotNoneD (r3 R S T) := ⟨fun _ => fun z => nomatch z⟩
theorem ev_r3 {σ : St} {F H : Hp} {ta tb tc : TE} {α β γ : Type} {R : Rp α} {S : Rp β} {T : Rp γ} {x : α} {y : β} {z : γ} (ha : Ev R ta σ F H x) (hb : Ev S tb σ F H y) (hc : Ev T tc σ F H z) (m : Mn R := by infer_instance) (n : Mn S := by infer_instance) (m2 : Mn T := by infer_instance) :
    Ev (r3 R S T) (tTup (tCons ta (tCons tb (tCons tc tNil)))) σ F H (x, y, z) := fun F1 H1 g1 Q q =>
  ha F1 H1 g1 _ fun v F2 H2 g2 r1 => hb F2 H2 (g1.trans g2) _ fun w F3 H3 g3 r2 => hc F3 H3 ((g1.trans g2).trans g3) _ fun v3 F4 H4 g4 r3 =>
    ⟨by show 3 ≤ sizeLine; decide, fun B hB => by
      have g6 : Gr M0 F4 H4 (upd F4 B (.tup [v, w, v3])) (upd H4 B (.tup [v, w, v3])) := .new g4.fh hB
      exact q _ _ _ (g2.trans (g3.trans (g4.trans g6))) ⟨B, v, w, v3, rfl, upd_same, m.mono (g3.ff.trans (g4.ff.trans g6.ff)) r1, n.mono (g4.ff.trans g6.ff) r2, m2.mono g6.ff r3⟩⟩
/-! ### not kept -/
def trisG (hs : List (List Nat)) (s x : Nat) : List (Nat × Nat × Nat) := (sortN (hs.getD x [])).map fun y => (s, x, y)
def trisS (n : Nat) (hs : List (List Nat)) (s : Nat) : List (Nat × Nat × Nat) := ((List.range n).map (trisG hs s)).flatten
def trisM (t : Tn) (hs : List (List Nat)) : List (Nat × Nat × Nat) := ((List.range t.maps.length).map (trisS t.many hs)).flatten
def badB (t : Tn) (hs : List (List Nat)) (p : Nat × Nat × Nat) : Bool := !atMostM hs ((t.maps.getD p.1 []).getD p.2.1 0) ((t.maps.getD p.1 []).getD p.2.2 0)
def notKeptM (t : Tn) (hs : List (List Nat)) : Option (Nat × Nat × Nat) := (trisM t hs).find? (badB t hs)
theorem range_split {n : Nat} : ∀ {s : Nat}, s < n → ∃ post, List.range n = List.range s ++ s :: post := fun {s} h => by
  refine ⟨(List.range n).drop (s + 1), ?_⟩
  have h1 : (List.range n).take s = List.range s := by rw [List.take_range, Nat.min_eq_left (Nat.le_of_lt h)]
  have h2 : (List.range n).drop s = s :: (List.range n).drop (s + 1) := by
    rw [List.drop_eq_getElem_cons (by rw [List.length_range]; exact h), List.getElem_range]
  rw [← h1, ← h2, List.take_append_drop]
theorem flat_split {α : Type} (f : Nat → List α) {n s : Nat} (h : s < n) : ∃ post, ((List.range n).map f).flatten = ((List.range s).map f).flatten ++ (f s ++ post) := by
  obtain ⟨post, hp⟩ := range_split h
  exact ⟨(post.map f).flatten, by rw [hp, List.map_append, List.flatten_append, List.map_cons, List.flatten_cons]⟩
theorem flat_succ {α : Type} (f : Nat → List α) (s : Nat) : ((List.range (s + 1)).map f).flatten = ((List.range s).map f).flatten ++ f s := by
  rw [List.range_succ, List.map_append, List.flatten_append]
  show _ ++ List.flatten [f s] = _
  rw [List.flatten_cons, List.flatten_nil, List.append_nil]
theorem find_none_app {α : Type} {p : α → Bool} {xs ys : List α} (h1 : xs.find? p = none) (h2 : ys.find? p = none) : (xs ++ ys).find? p = none := by
  rw [List.find?_append, h1, h2]
  rfl
theorem find_hit {α : Type} {p : α → Bool} {pre post : List α} {a : α} (h1 : pre.find? p = none) (h2 : p a = true) : (pre ++ a :: post).find? p = some a := by
  rw [List.find?_append, h1, List.find?_cons, h2]
  rfl
theorem tri_hit {t : Tn} {hs : List (List Nat)} {s x k y : Nat} (hs1 : s < t.maps.length) (hx : x < t.many) (hy : (sortN (hs.getD x []))[k]? = some y)
    (h1 : (((List.range s).map (trisS t.many hs)).flatten).find? (badB t hs) = none) (h2 : (((List.range x).map (trisG hs s)).flatten).find? (badB t hs) = none) (h3 : ((trisG hs s x).take k).find? (badB t hs) = none) (hb : badB t hs (s, x, y) = true) : notKeptM t hs = some (s, x, y) := by
  unfold notKeptM trisM
  obtain ⟨p1, e1⟩ := flat_split (trisS t.many hs) hs1
  obtain ⟨p2, e2⟩ := flat_split (trisG hs s) hx
  rw [e1, show trisS t.many hs s = ((List.range t.many).map (trisG hs s)).flatten from rfl, e2]
  have e3 : trisG hs s x = (trisG hs s x).take k ++ (s, x, y) :: (trisG hs s x).drop (k + 1) := by
    have hk : (trisG hs s x)[k]? = some (s, x, y) := by
      unfold trisG
      rw [List.getElem?_map, hy]
      rfl
    obtain ⟨hl, he⟩ := List.getElem?_eq_some_iff.mp hk
    have : (trisG hs s x).drop k = (s, x, y) :: (trisG hs s x).drop (k + 1) := by rw [List.drop_eq_getElem_cons hl, he]
    rw [← this, List.take_append_drop]
  rw [e3]
  rw [show ((List.range s).map (trisS t.many hs)).flatten ++ (((List.range x).map (trisG hs s)).flatten ++ (((trisG hs s x).take k ++ (s, x, y) :: (trisG hs s x).drop (k + 1)) ++ p2) ++ p1) = (((List.range s).map (trisS t.many hs)).flatten ++ (((List.range x).map (trisG hs s)).flatten ++ (trisG hs s x).take k)) ++ (s, x, y) :: ((trisG hs s x).drop (k + 1) ++ p2 ++ p1) by simp [List.append_assoc]]
  exact find_hit (find_none_app h1 (find_none_app h2 h3)) hb
theorem not_none {t : Tn} {hs : List (List Nat)} (h : notKeptM t hs = none) {s x y : Nat} (h1 : s < t.maps.length) (hx : x < t.many) (hy : y ∈ hs.getD x []) : atMostM hs ((t.maps.getD s []).getD x 0) ((t.maps.getD s []).getD y 0) = true := by
  unfold notKeptM at h
  have := List.find?_eq_none.mp h (s, x, y) (List.mem_flatten.mpr ⟨trisS t.many hs s, List.mem_map.mpr ⟨s, List.mem_range.mpr h1, rfl⟩, List.mem_flatten.mpr ⟨trisG hs s x, List.mem_map.mpr ⟨x, List.mem_range.mpr hx, rfl⟩, List.mem_map.mpr ⟨y, sort_mem.mpr hy, rfl⟩⟩⟩)
  unfold badB at this
  simpa using this
theorem not_some {t : Tn} {hs : List (List Nat)} {s x y : Nat} (h : notKeptM t hs = some (s, x, y)) : s < t.maps.length ∧ x < t.many ∧ y ∈ hs.getD x [] ∧ atMostM hs ((t.maps.getD s []).getD x 0) ((t.maps.getD s []).getD y 0) = false := by
  unfold notKeptM at h
  have hb := List.find?_some h
  have hm := List.mem_of_find?_eq_some h
  obtain ⟨l, hl, hm⟩ := List.mem_flatten.mp hm
  obtain ⟨s', hs', rfl⟩ := List.mem_map.mp hl
  obtain ⟨l2, hl2, hm⟩ := List.mem_flatten.mp hm
  obtain ⟨x', hx', rfl⟩ := List.mem_map.mp hl2
  obtain ⟨y', hy', e⟩ := List.mem_map.mp hm
  cases e
  refine ⟨List.mem_range.mp hs', List.mem_range.mp hx', sort_mem.mp hy', ?_⟩
  unfold badB at hb
  simpa using hb
theorem sort_len (l : List Nat) : (sortN l).length = l.length := (sort_perm l).length_eq
end El

set_option Elab.async false
set_option linter.all false
set_option maxRecDepth 100000
set_option maxHeartbeats 4000000
namespace El
open PySem PySem.Spec L2
variable [LawTabs]
/-! ### own exceptions that keep a value -/
/-- C.__init__(self, v): Base.__init__(self, text); self.f = v -/
def spKeep (C : Addr) (f : Str) : Sp := fun vs H Q _ => ∃ a v, vs = [.ref a, v] ∧ H a = some (exo a C none) ∧ ∀ dx, H dx = none → dx ≠ a → Q .non (upd (upd H dx (exd dx [(f, v)])) a (exo a C (some dx)))
instance {C : Addr} {f : Str} : SpLen (spKeep C f) 2 := ⟨fun ⟨_, _, h, _⟩ => by rw [h]; rfl⟩
section
variable {K : PySem.W.Frag} {σ : St} {F H F' H' : Hp} {ta te : TE} {α : Type} {R : Rp α} {x : α} {D : Ends} {C : Addr} {f : Str} {W : WX}
theorem x_raise (e : ExT F H) (h : Ev R te σ F H x) (k : ∀ v d F' H', Gr M0 F H F' H' → R F' v x → H' d = none → W (.ref C) (some d) σ (upd H' d (.xd [(f, v)]))) :
    tMkO C (spKeep C f) [] (tCons te tNil) σ H (fun cls d H' => W cls d σ H') :=
  h F H (.refl e) _ fun v F1 H1 g r => ⟨by show 1 ≤ 1000; decide, fun a ha => ⟨a, v, rfl, upd_same, fun dx hdx hne => ⟨rfl, dx, [(f, v)], by rw [upd_same], by rw [upd_ne hne, upd_same], by rw [upd_ne hne] at hdx; exact hdx, by
    have hdx1 : H1 dx = none := by rw [upd_ne hne] at hdx; exact hdx
    have eq : upd (del (upd (upd (upd H1 a (exo a C none)) dx (exd dx [(f, v)])) a (exo a C (some dx))) a) dx (.xd [(f, v)]) = upd H1 dx (.xd [(f, v)]) := by
      funext b
      by_cases hb : b = dx
      · rw [hb, upd_same, upd_same]
      · rw [upd_ne hb, upd_ne hb]
        by_cases hb2 : b = a
        · rw [hb2, del_same, ha]
        · rw [del_ne hb2, upd_ne hb2, upd_ne hb, upd_ne hb2]
    rw [eq]
    exact k v dx F1 H1 g r hdx1⟩⟩⟩
end
end El

set_option Elab.async false
set_option linter.all false
set_option maxRecDepth 100000
set_option maxHeartbeats 4000000
namespace El
open PySem PySem.Spec L2
variable [LawTabs]
def loopB (t : Tn) (lo hi : Nat) : List Nat → Nat → List Nat → Option (Nat × Nat)
  | f, k, [] => if f.getD lo 0 = f.getD hi 0 then some (f.getD lo 0, k) else none
  | f, k, s :: xs => if f.getD lo 0 = f.getD hi 0 then some (f.getD lo 0, k) else loopB t lo hi (thenM (t.maps.getD s []) f) (k + 1) xs
theorem loopB_hit {t : Tn} {lo hi k : Nat} {f xs : List Nat} (h : f.getD lo 0 = f.getD hi 0) : loopB t lo hi f k xs = some (f.getD lo 0, k) := by
  cases xs <;> (unfold loopB; rw [if_pos h])
theorem loopB_go {t : Tn} {lo hi k s : Nat} {f xs : List Nat} (h : ¬ f.getD lo 0 = f.getD hi 0) : loopB t lo hi f k (s :: xs) = loopB t lo hi (thenM (t.maps.getD s []) f) (k + 1) xs := by
  rw [loopB, if_neg h]
def GoodK (t : Tn) (hs : List (List Nat)) : Prop := hs.length = t.many ∧ (∀ x, x < t.many → ∀ y ∈ hs.getD x [], y < t.many) ∧ ∀ x, x < t.many → (hs.getD x []).length < 64
def SpBetween (CT CO CX : Addr) : Sp := fun vs H Q E => ∃ (F : Hp) (v w u : V) (t : Tn) (hs : List (List Nat)) (xs : List Nat) (lo hi : Nat), vs = [v, w, u] ∧ ExT F H ∧ rTurns CT F v t ∧ rOrder CO F w hs ∧ rLst rNat F u xs ∧
  GoodK t hs ∧ leastM hs = some lo ∧ greatestM hs = some hi ∧ lo < t.many ∧ hi < t.many ∧ (∀ s ∈ xs, s < t.maps.length) ∧ xs.length ≤ 1000000 ∧
  (notKeptM t hs = none → ∀ r F' H', Gr M0 F H F' H' → rOpt (rPr rNat rNat) F' r (loopB t lo hi (idMap t.many) 0 xs) → Q r H') ∧
  ∀ p, notKeptM t hs = some p → ∀ v d F' H', Gr M0 F H F' H' → r3 rNat rNat rNat F' v p → H' d = none → E (.ref CX) (some d) (upd H' d (.xd [(("kept" : Str), v)]))
instance {a b c : Addr} : SpLen (SpBetween a b c) 3 := ⟨fun ⟨_, _, _, _, _, _, _, _, _, h, _⟩ => by rw [h]; rfl⟩
end El

set_option Elab.async false
set_option linter.all false
set_option maxRecDepth 100000
set_option maxHeartbeats 4000000
namespace El
open PySem PySem.Spec L2
variable [LawTabs]
/-! ### what _law_told tells -/
abbrev Told := Sum (Option (Nat × Nat)) (Nat × Nat × Nat)
def rTold : Rp Told := fun F v x => match x with
  | .inl o => ∃ a w, v = .ref a ∧ F a = some (.tup [.str ("told" : Str), w]) ∧ rOpt (rPr rNat rNat) F w o
  | .inr p => ∃ a w, v = .ref a ∧ F a = some (.tup [.str ("not kept" : Str), w]) ∧ r3 rNat rNat rNat F w p
instance : Mn rTold := ⟨fun {H H' v x} e h => by
  cases x with
  | inl o => obtain ⟨a, w, h1, h2, h3⟩ := h; exact ⟨a, w, h1, e _ _ h2, Mn.mono e h3⟩
  | inr p => obtain ⟨a, w, h1, h2, h3⟩ := h; exact ⟨a, w, h1, e _ _ h2, Mn.mono e h3⟩⟩
abbrev dO : Dt (rOpt (rPr rNat rNat)) := inferInstance
abbrev d3 : Dt (r3 rNat rNat rNat) := inferInstance
def toldData : Told → PyData
  | .inl o => .tuple [.str ("told" : Str), dO.data o]
  | .inr p => .tuple [.str ("not kept" : Str), d3.data p]
instance : Dt rTold where
  data := toldData
  rep := fun {K F H v x} e h => by
    cases x with
    | inl o => obtain ⟨a, w, h1, h2, h3⟩ := h; subst h1; exact .tup (SqT.of (e _ _ h2)) (.cons (.str _) (.cons (dO.rep e h3) .nil))
    | inr p => obtain ⟨a, w, h1, h2, h3⟩ := h; subst h1; exact .tup (SqT.of (e _ _ h2)) (.cons (.str _) (.cons (d3.rep e h3) .nil))
  lay := fun x => by
    cases x with
    | inl o =>
      show (PyData.strOk ("told" : Str) && (PyData.canLay0 (dO.data o) && true)) = true
      rw [dO.lay, show PyData.strOk ("told" : Str) = true by decide +kernel]
      rfl
    | inr p =>
      show (PyData.strOk ("not kept" : Str) && (PyData.canLay0 (d3.data p) && true)) = true
      rw [d3.lay, show PyData.strOk ("not kept" : Str) = true by decide +kernel]
      rfl
  dep := 10
  depth := fun x => by
    cases x with
    | inl o =>
      have h1 := dO.depth o
      have h2 : dO.dep ≤ 5 := by exact Nat.le_of_ble_eq_true rfl
      show max 0 (max (PyData.depth (dO.data o)) 0) + 1 ≤ 10
      omega
    | inr p =>
      have h1 := d3.depth p
      have h2 : d3.dep ≤ 5 := by exact Nat.le_of_ble_eq_true rfl
      show max 0 (max (PyData.depth (d3.data p)) 0) + 1 ≤ 10
      omega
  eqv := fun x y => by
    have n1 : (("told" : Str) == ("not kept" : Str)) = false := by decide +kernel
    have n2 : (("not kept" : Str) == ("told" : Str)) = false := by decide +kernel
    cases x with
    | inl o =>
      cases y with
      | inl o' =>
        show ((("told" : Str) == ("told" : Str)) && (PyData.eqv (dO.data o) (dO.data o') && true)) = true ↔ _
        rw [beq_self_eq_true, Bool.true_and, Bool.and_true, dO.eqv]
        exact ⟨fun h => by rw [h], fun h => Sum.inl.inj h⟩
      | inr p =>
        show ((("told" : Str) == ("not kept" : Str)) && (PyData.eqv (dO.data o) (d3.data p) && true)) = true ↔ _
        rw [n1, Bool.false_and]
        exact ⟨(fun h => nomatch h), (fun h => nomatch h)⟩
    | inr p =>
      cases y with
      | inl o =>
        show ((("not kept" : Str) == ("told" : Str)) && (PyData.eqv (d3.data p) (dO.data o) && true)) = true ↔ _
        rw [n2, Bool.false_and]
        exact ⟨(fun h => nomatch h), (fun h => nomatch h)⟩
      | inr p' =>
        show ((("not kept" : Str) == ("not kept" : Str)) && (PyData.eqv (d3.data p) (d3.data p') && true)) = true ↔ _
        rw [beq_self_eq_true, Bool.true_and, Bool.and_true, d3.eqv]
        exact ⟨fun h => by rw [h], fun h => Sum.inr.inj h⟩
def toldM (t : Tn) (hs : List (List Nat)) (lo hi : Nat) (xs : List Nat) : Told := match notKeptM t hs with
  | none => .inl (loopB t lo hi (idMap t.many) 0 xs)
  | some p => .inr p
end El

set_option Elab.async false
set_option linter.all false
set_option maxRecDepth 100000
set_option maxHeartbeats 4000000
namespace El
open PySem PySem.Spec L2
variable [LawTabs]
/-- the order's law, in plain words -/
structure OrdOk (n : Nat) (hs : List (List Nat)) (lo hi : Nat) : Prop where
  lo_lt : lo < n
  hi_lt : hi < n
  low : ∀ x, x < n → atMostM hs lo x = true
  high : ∀ x, x < n → atMostM hs x hi = true
  anti : ∀ x y, x < n → y < n → atMostM hs x y = true → atMostM hs y x = true → x = y
theorem atMost_refl (hs : List (List Nat)) (x : Nat) : atMostM hs x x = true := by
  unfold atMostM
  rw [decide_eq_true rfl]
  rfl
def MonoM (n : Nat) (hs : List (List Nat)) (f : List Nat) : Prop := ∀ x y, x < n → y < n → atMostM hs x y = true → atMostM hs (f.getD x 0) (f.getD y 0) = true
theorem mono_map {t : Tn} {hs : List (List Nat)} (h : notKeptM t hs = none) {s : Nat} (h1 : s < t.maps.length) : MonoM t.many hs (t.maps.getD s []) := fun x y hx hy hxy => by
  unfold atMostM at hxy
  rcases Bool.or_eq_true_iff.mp hxy with h2 | h2
  · have := of_decide_eq_true h2
    subst this
    exact atMost_refl _ _
  · exact not_none h h1 hx (of_decide_eq_true h2)
theorem then_getM {n : Nat} {a b : List Nat} (ha : IsMap n a) {x : Nat} (hx : x < n) : (thenM a b).getD x 0 = b.getD (a.getD x 0) 0 := by
  unfold thenM
  have hl : x < a.length := by rw [ha.1]; exact hx
  rw [List.getD_eq_getElem?_getD, List.getElem?_map, List.getElem?_eq_getElem hl]
  show b.getD a[x] 0 = _
  rw [List.getD_eq_getElem?_getD (l := a), List.getElem?_eq_getElem hl]
  rfl
theorem map_lt {n : Nat} {a : List Nat} (ha : IsMap n a) {x : Nat} (hx : x < n) : a.getD x 0 < n := by
  have hl : x < a.length := by rw [ha.1]; exact hx
  rw [List.getD_eq_getElem?_getD, List.getElem?_eq_getElem hl]
  exact ha.2 _ (List.getElem_mem hl)
theorem mono_then {n : Nat} {hs : List (List Nat)} {a b : List Nat} (ha : IsMap n a) (ma : MonoM n hs a) (mb : MonoM n hs b) : MonoM n hs (thenM a b) := fun x y hx hy h => by
  rw [then_getM ha hx, then_getM ha hy]
  exact mb _ _ (map_lt ha hx) (map_lt ha hy) (ma x y hx hy h)
theorem mono_id (n : Nat) (hs : List (List Nat)) : MonoM n hs (idMap n) := fun x y hx hy h => by
  have e : ∀ z, z < n → (idMap n).getD z 0 = z := fun z hz => by
    unfold idMap
    rw [List.getD_eq_getElem?_getD, List.getElem?_range hz]
    rfl
  rw [e x hx, e y hy]
  exact h
/-- the two ends agree: all places have met -/
theorem ends_meet {n lo hi : Nat} {hs : List (List Nat)} {f : List Nat} (o : OrdOk n hs lo hi) (hf : IsMap n f) (mf : MonoM n hs f) (h : f.getD lo 0 = f.getD hi 0) : ∀ x ∈ f, x = f.getD lo 0 := fun x hx => by
  obtain ⟨i, hi'⟩ := List.mem_iff_getElem?.mp hx
  have hin : i < n := by rw [← hf.1]; exact (List.getElem?_eq_some_iff.mp hi').1
  have ex : f.getD i 0 = x := by rw [List.getD_eq_getElem?_getD, hi']; rfl
  have h1 := mf lo i o.lo_lt hin (o.low i hin)
  have h2 := mf i hi hin o.hi_lt (o.high i hin)
  rw [ex] at h1 h2
  rw [← h] at h2
  exact o.anti x _ (hf.2 x hx) (map_lt hf o.lo_lt) h2 h1
theorem meet_iff {n lo hi : Nat} {hs : List (List Nat)} {f : List Nat} (o : OrdOk n hs lo hi) (hf : IsMap n f) (mf : MonoM n hs f) : metB f = true ↔ f.getD lo 0 = f.getD hi 0 := by
  have hl : lo < f.length := by rw [hf.1]; exact o.lo_lt
  have hh : hi < f.length := by rw [hf.1]; exact o.hi_lt
  constructor
  · intro h
    exact metB_eq h (List.mem_of_getElem? (getD_at hl)) (List.mem_of_getElem? (getD_at hh))
  · intro h
    refine metB_iff.mpr ⟨fun z => ?_, _, ends_meet o hf mf h⟩
    subst z
    exact absurd hl (Nat.not_lt_zero _)
theorem fold_met {t : Tn} {f : List Nat} {k : Nat} (h : metB f = true) : ∀ xs : List Nat, xs.foldl (drStep t) (f, k) = (f, k)
  | [] => rfl
  | s :: xs => by
    have e : drStep t (f, k) s = (f, k) := by
      unfold drStep
      rw [if_pos h]
    rw [List.foldl_cons, e]
    exact fold_met h xs
def endD (p : List Nat × Nat) : Option (Nat × Nat) := match plc p.1 with
  | none => none
  | some q => some (q, p.2)
theorem between_drawn {t : Tn} {hs : List (List Nat)} {lo hi : Nat} (o : OrdOk t.many hs lo hi) (hn : notKeptM t hs = none) : ∀ (xs f : List Nat) (k : Nat), (∀ s ∈ xs, s < t.maps.length) → IsMap t.many f → MonoM t.many hs f → loopB t lo hi f k xs = endD (xs.foldl (drStep t) (f, k)) := by
  have hit : ∀ (xs f : List Nat) (k : Nat), IsMap t.many f → MonoM t.many hs f → f.getD lo 0 = f.getD hi 0 → loopB t lo hi f k xs = endD (xs.foldl (drStep t) (f, k)) := fun xs f k hf mf h => by
    have hm := (meet_iff o hf mf).mpr h
    have hl : lo < f.length := by rw [hf.1]; exact o.lo_lt
    rw [loopB_hit h, fold_met hm]
    unfold endD plc
    rw [if_pos hm]
    have : f.headD 0 = f.getD lo 0 := by
      cases f with
      | nil => exact absurd hl (Nat.not_lt_zero _)
      | cons a f => exact metB_eq hm List.mem_cons_self (List.mem_of_getElem? (getD_at hl))
    show some (f.getD lo 0, k) = some (f.headD 0, k)
    rw [this]
  intro xs
  induction xs with
  | nil =>
    intro f k _ hf mf
    by_cases h : f.getD lo 0 = f.getD hi 0
    · exact hit [] f k hf mf h
    · have hm : metB f = false := by
        cases q : metB f with
        | false => rfl
        | true => exact absurd ((meet_iff o hf mf).mp q) h
      unfold loopB
      rw [if_neg h]
      show none = endD (f, k)
      unfold endD plc
      rw [if_neg (by rw [hm]; exact Bool.false_ne_true)]
  | cons s xs ih =>
    intro f k hsg hf mf
    by_cases h : f.getD lo 0 = f.getD hi 0
    · exact hit (s :: xs) f k hf mf h
    · have hm : metB f = false := by
        cases q : metB f with
        | false => rfl
        | true => exact absurd ((meet_iff o hf mf).mp q) h
      have hs1 := hsg s List.mem_cons_self
      have e : drStep t (f, k) s = (thenM (t.maps.getD s []) f, k + 1) := by
        unfold drStep
        rw [if_neg (by rw [hm]; exact Bool.false_ne_true)]
      rw [loopB_go h, List.foldl_cons, e]
      exact ih _ _ (fun s' h' => hsg s' (List.mem_cons_of_mem _ h')) (isMap_then (t.isMap hs1) hf) (mono_then (t.isMap hs1) (mono_map hn hs1) mf)
theorem between_eq {t : Tn} {hs : List (List Nat)} {lo hi : Nat} (o : OrdOk t.many hs lo hi) (hn : notKeptM t hs = none) {xs : List Nat} (hsg : ∀ s ∈ xs, s < t.maps.length) : loopB t lo hi (idMap t.many) 0 xs = drawnM t xs :=
  between_drawn o hn xs (idMap t.many) 0 hsg (isMap_id _) (mono_id _ _)
end El

set_option Elab.async false
set_option linter.all false
set_option maxRecDepth 100000
set_option maxHeartbeats 4000000
namespace El
open PySem PySem.Spec L2
variable [LawTabs]
def setM (p s : Nat) (b : Bool) : Nat := p + (if b = true then 2 ^ s else 0) - (if upB p s = true then 2 ^ s else 0)
theorem ends_all : ((List.range 6).all fun n => (List.range (2 ^ n)).all fun x => subB n 0 x && subB n x (2 ^ n - 1)) = true := by decide +kernel
theorem anti_all : ((List.range 6).all fun n => (List.range (2 ^ n)).all fun x => (List.range (2 ^ n)).all fun y => !(subB n x y && subB n y x) || (x == y)) = true := by decide +kernel
def goodB (n : Nat) (hs : List (List Nat)) : Bool := (List.range (2 ^ n)).all fun x => ((hs.getD x []).all fun y => decide (y < 2 ^ n)) && decide ((hs.getD x []).length < 64)
theorem good1 : goodB 1 hs1 = true := by decide +kernel
theorem good2 : goodB 2 hs2 = true := by decide +kernel
theorem good3 : goodB 3 hs3 = true := by decide +kernel
theorem good4 : goodB 4 hs4 = true := by decide +kernel
theorem good5 : goodB 5 hs5 = true := by decide +kernel
theorem good_hs {n : Nat} (h0 : 1 ≤ n) (h1 : n ≤ 5) : goodB n (hsM n) = true := by
  match n, h0, h1 with
  | 1, _, _ => rw [hs1_eq]; exact good1
  | 2, _, _ => rw [hs2_eq]; exact good2
  | 3, _, _ => rw [hs3_eq]; exact good3
  | 4, _, _ => rw [hs4_eq]; exact good4
  | 5, _, _ => rw [hs5_eq]; exact good5
theorem goodK_hs {t : Tn} {n : Nat} (h0 : 1 ≤ n) (h1 : n ≤ 5) (ht : t.many = 2 ^ n) : GoodK t (hsM n) := by
  have h := good_hs h0 h1
  refine ⟨by rw [ht]; exact above_len, fun x hx y hy => ?_, fun x hx => ?_⟩
  · rw [ht] at hx ⊢
    have h2 := List.all_eq_true.mp h x (List.mem_range.mpr hx)
    exact of_decide_eq_true (List.all_eq_true.mp (Bool.and_eq_true_iff.mp h2).1 y hy)
  · rw [ht] at hx
    have h2 := List.all_eq_true.mp h x (List.mem_range.mpr hx)
    exact of_decide_eq_true (Bool.and_eq_true_iff.mp h2).2
theorem ord_hs {n : Nat} (h0 : 1 ≤ n) (h1 : n ≤ 5) : OrdOk (2 ^ n) (hsM n) 0 (2 ^ n - 1) := by
  have hp := Nat.two_pow_pos n
  have he := List.all_eq_true.mp ends_all n (List.mem_range.mpr (by omega))
  have ha := List.all_eq_true.mp anti_all n (List.mem_range.mpr (by omega))
  refine ⟨hp, by omega, fun x hx => ?_, fun x hx => ?_, fun x y hx hy hxy hyx => ?_⟩
  · rw [hs_sub h0 h1 hp hx]
    exact (Bool.and_eq_true_iff.mp (List.all_eq_true.mp he x (List.mem_range.mpr hx))).1
  · rw [hs_sub h0 h1 hx (by omega)]
    exact (Bool.and_eq_true_iff.mp (List.all_eq_true.mp he x (List.mem_range.mpr hx))).2
  · rw [hs_sub h0 h1 hx hy] at hxy
    rw [hs_sub h0 h1 hy hx] at hyx
    have := List.all_eq_true.mp (List.all_eq_true.mp ha x (List.mem_range.mpr hx)) y (List.mem_range.mpr hy)
    rw [hxy, hyx] at this
    exact beq_iff_eq.mp this
theorem set_mono : ((List.range 6).all fun n => (List.range n).all fun s => (List.range (2 ^ n)).all fun x => (List.range (2 ^ n)).all fun y => !subB n x y || (subB n (setM x s false) (setM y s false) && subB n (setM x s false) (setM y s true) && subB n (setM x s true) (setM y s true))) = true := by decide +kernel
theorem filter_mono {α : Type} {p q : α → Bool} : ∀ {l : List α}, (∀ x ∈ l, p x = true → q x = true) → (l.filter p).length ≤ (l.filter q).length
  | [], _ => Nat.le_refl _
  | a :: l, h => by
    have ih := filter_mono (p := p) (q := q) fun x hx => h x (List.mem_cons_of_mem a hx)
    rw [List.filter_cons, List.filter_cons]
    by_cases hp : p a = true
    · rw [if_pos hp, if_pos (h a List.mem_cons_self hp), List.length_cons, List.length_cons]
      omega
    · rw [if_neg hp]
      split
      · rw [List.length_cons]; omega
      · exact ih
theorem sub_up {n x y : Nat} (h : subB n x y = true) {o : Nat} (ho : o < n) (hx : upB x o = true) : upB y o = true := by
  have := List.all_eq_true.mp h o (List.mem_range.mpr ho)
  rw [hx] at this
  simpa using this
theorem stand_mono {W : Wb} (hl : W.levels.Pairwise (· ≤ ·)) {x y s k : Nat} (hs : s < W.spots) (h : subB W.spots x y = true) (hk : standB W x s k = true) : standB W y s k = true := by
  unfold standB at hk ⊢
  have hk := of_decide_eq_true hk
  have hc : countM W.ties x s ≤ countM W.ties y s := filter_mono fun o ho hx => sub_up h (tied_mem ho).1 hx
  have c1 := count_lt (W := W) (p := x) hs
  have c2 := count_lt (W := W) (p := y) hs
  have h6 := W.h6
  have hle : W.levels.getD (countM W.ties x s) 0 ≤ W.levels.getD (countM W.ties y s) 0 := by
    have l1 : countM W.ties x s < W.levels.length := by omega
    have l2 : countM W.ties y s < W.levels.length := by omega
    rw [List.getD_eq_getElem?_getD, List.getD_eq_getElem?_getD, List.getElem?_eq_getElem l1, List.getElem?_eq_getElem l2]
    show W.levels[countM W.ties x s] ≤ W.levels[countM W.ties y s]
    by_cases e : countM W.ties x s = countM W.ties y s
    · have : W.levels[countM W.ties x s] = W.levels[countM W.ties y s] := by congr 1
      omega
    · exact (List.pairwise_iff_getElem.mp hl) _ _ l1 l2 (by omega)
  exact decide_eq_true (by omega)
theorem moved_mono {W : Wb} (hl : W.levels.Pairwise (· ≤ ·)) {x y s k : Nat} (hs : s < W.spots) (hx : x < 2 ^ W.spots) (hy : y < 2 ^ W.spots) (h : subB W.spots x y = true) : subB W.spots (movedM W x s k) (movedM W y s k) = true := by
  have h1 := W.h1
  have a := List.all_eq_true.mp (List.all_eq_true.mp (List.all_eq_true.mp (List.all_eq_true.mp set_mono W.spots (List.mem_range.mpr (by omega))) s (List.mem_range.mpr hs)) x (List.mem_range.mpr hx)) y (List.mem_range.mpr hy)
  rw [h] at a
  have a2 : (subB W.spots (setM x s false) (setM y s false) && subB W.spots (setM x s false) (setM y s true) && subB W.spots (setM x s true) (setM y s true)) = true := by simpa using a
  rw [Bool.and_eq_true, Bool.and_eq_true] at a2
  obtain ⟨⟨b1, b2⟩, b3⟩ := a2
  have sm := stand_mono hl (k := k) hs h
  show subB W.spots (setM x s (standB W x s k)) (setM y s (standB W y s k)) = true
  cases q1 : standB W x s k with
  | true => rw [sm q1]; exact b3
  | false =>
    cases q2 : standB W y s k with
    | true => exact b2
    | false => exact b1
theorem kept_web {W : Wb} (hl : W.levels.Pairwise (· ≤ ·)) : notKeptM (turnsM W) (hsM W.spots) = none := by
  have w0 := W.h0
  have w1 := W.h1
  cases q : notKeptM (turnsM W) (hsM W.spots) with
  | none => rfl
  | some p =>
    obtain ⟨s, x, y⟩ := p
    obtain ⟨h1, h2, h3, h4⟩ := not_some q
    have hx : x < 2 ^ W.spots := h2
    have gk := goodK_hs (t := turnsM W) w0 w1 rfl
    have hy : y < 2 ^ W.spots := gk.2.1 x h2 y h3
    have hsub : subB W.spots x y = true := by
      rw [← hs_sub w0 w1 hx hy]
      unfold atMostM
      rw [decide_eq_true h3, Bool.or_true]
    have hm : (turnsM W).maps.getD s [] ∈ turnsML W := by
      have := getD_at (xs := (turnsM W).maps) (d := []) h1
      exact List.mem_of_getElem? this
    unfold turnsML at hm
    obtain ⟨l, hl1, hm⟩ := List.mem_flatten.mp hm
    obtain ⟨sp, hsp, rfl⟩ := List.mem_map.mp hl1
    obtain ⟨k, hk, e⟩ := List.mem_map.mp hm
    have hsp := List.mem_range.mp hsp
    have eg : ∀ z, z < 2 ^ W.spots → ((turnsM W).maps.getD s []).getD z 0 = movedM W z sp k := fun z hz => by
      rw [← e, List.getD_eq_getElem?_getD, List.getElem?_map, List.getElem?_range hz]
      rfl
    rw [eg x hx, eg y hy, hs_sub w0 w1 (moved_lt hx hsp) (moved_lt hy hsp), moved_mono hl hsp hx hy hsub] at h4
    cases h4
end El

set_option Elab.async false
set_option linter.all false
set_option maxRecDepth 100000
set_option maxHeartbeats 4000000
namespace El
open PySem PySem.Spec L2
variable [LawTabs]
section
variable {K : PySem.W.Frag} {σ : St} {F H F' H' : Hp} {ta tb tc td te : TE} {α β γ δ : Type} {R : Rp α} {S : Rp β} {T : Rp γ} {U : Rp δ} {D : Ends} {E : XK}
/-- x, y = e -/
theorem x_pair {i j : Nat} {p : α × β} (e : ExT F H) (h : Ev (rPr R S) te σ F H p)
    (k : ∀ v w F' H', Gr M0 F H F' H' → R F' v p.1 → S F' w p.2 → D.nx ((σ.set i (some v)).set j (some w)) H') : tAsg te (gTup K 2 (gCons (gName i) (gCons (gName j) gNil))) D σ H :=
  h F H (.refl e) _ fun v F' H' g ⟨b, u, w, eb, hb, r1, r2⟩ => by
    subst eb
    exact ⟨b, [u, w], rfl, SqT.of (g.fh _ _ hb), rfl, u, [w], rfl, w, [], rfl, rfl, k u w F' H' g r1 r2⟩
/-- x, y, z = e -/
theorem x_tri {i j l : Nat} {p : α × β × γ} (e : ExT F H) (h : Ev (r3 R S T) te σ F H p)
    (k : ∀ v w u F' H', Gr M0 F H F' H' → R F' v p.1 → S F' w p.2.1 → T F' u p.2.2 → D.nx (((σ.set i (some v)).set j (some w)).set l (some u)) H') : tAsg te (gTup K 3 (gCons (gName i) (gCons (gName j) (gCons (gName l) gNil)))) D σ H :=
  h F H (.refl e) _ fun v F' H' g ⟨b, u, w, z, eb, hb, r1, r2, r3⟩ => by
    subst eb
    exact ⟨b, [u, w, z], rfl, SqT.of (g.fh _ _ hb), rfl, u, [w, z], rfl, w, [z], rfl, z, [], rfl, rfl, k u w z F' H' g r1 r2 r3⟩
theorem x_quad {i j l m : Nat} {p : α × β × γ × δ} (e : ExT F H) (h : Ev (r4 R S T U) te σ F H p)
    (k : ∀ v w u z F' H', Gr M0 F H F' H' → R F' v p.1 → S F' w p.2.1 → T F' u p.2.2.1 → U F' z p.2.2.2 → D.nx ((((σ.set i (some v)).set j (some w)).set l (some u)).set m (some z)) H') : tAsg te (gTup K 4 (gCons (gName i) (gCons (gName j) (gCons (gName l) (gCons (gName m) gNil))))) D σ H :=
  h F H (.refl e) _ fun v F' H' g ⟨b, u, w, z, y, eb, hb, r1, r2, r3, r4⟩ => by
    subst eb
    exact ⟨b, [u, w, z, y], rfl, SqT.of (g.fh _ _ hb), rfl, u, [w, z, y], rfl, w, [z, y], rfl, z, [y], rfl, y, [], rfl, rfl, k u w z y F' H' g r1 r2 r3 r4⟩
theorem ev_told1 {o : Option (Nat × Nat)} (h : Ev (rOpt (rPr rNat rNat)) ta σ F H o) : Ev rTold (tTup (tCons (tC (.str "told")) (tCons ta tNil))) σ F H (.inl o) := fun F1 H1 g1 Q q =>
  h F1 H1 g1 _ fun v F2 H2 g2 r => ⟨by show 2 ≤ sizeLine; decide, fun B hB => by
    have g3 : Gr M0 F2 H2 (upd F2 B (.tup [.str ("told" : Str), v])) (upd H2 B (.tup [.str ("told" : Str), v])) := .new g2.fh hB
    exact q _ _ _ (g2.trans g3) ⟨B, v, rfl, upd_same, Mn.mono g3.ff r⟩⟩
theorem ev_told2 {p : Nat × Nat × Nat} (h : Ev (r3 rNat rNat rNat) ta σ F H p) : Ev rTold (tTup (tCons (tC (.str "not kept")) (tCons ta tNil))) σ F H (.inr p) := fun F1 H1 g1 Q q =>
  h F1 H1 g1 _ fun v F2 H2 g2 r => ⟨by show 2 ≤ sizeLine; decide, fun B hB => by
    have g3 : Gr M0 F2 H2 (upd F2 B (.tup [.str ("not kept" : Str), v])) (upd H2 B (.tup [.str ("not kept" : Str), v])) := .new g2.fh hB
    exact q _ _ _ (g2.trans g3) ⟨B, v, rfl, upd_same, Mn.mono g3.ff r⟩⟩
end
/-- `except C` names errors of C's own class -/
theorem exm_self {K : PySem.W.Frag} {C : Addr} (xec : PySem.W.subIn K (.ref C) (.type "BaseException") = some true) (xic : PySem.W.isClsIn K C = true) (xty : PySem.W.typeIn K (.ref C) = some (.type "type")) (xsc : PySem.W.subIn K (.ref C) (.ref C) = some true) :
    PySem.W.exmOne K (.ref C) (.ref C) = some true := by
  have xic2 : (PySem.W.clsIn K C).isSome = true := xic
  unfold PySem.W.exmOne PySem.W.kitCls
  simp [xec, xic2, xty, xsc]
end El

set_option linter.all false
set_option maxRecDepth 100000
set_option maxHeartbeats 2000000
namespace El
/-! ### sums and determinants of whole numbers -/
def sumN : Nat → (Nat → Int) → Int
  | 0, _ => 0
  | n + 1, f => sumN n f + f n
theorem sumN_congr {f g : Nat → Int} : ∀ {n : Nat}, (∀ i, i < n → f i = g i) → sumN n f = sumN n g
  | 0, _ => rfl
  | n + 1, h => by
    show sumN n f + f n = sumN n g + g n
    rw [sumN_congr fun i hi => h i (by omega), h n (by omega)]
theorem sumN_zero {f : Nat → Int} : ∀ {n : Nat}, (∀ i, i < n → f i = 0) → sumN n f = 0
  | 0, _ => rfl
  | n + 1, h => by
    show sumN n f + f n = 0
    rw [sumN_zero fun i hi => h i (by omega), h n (by omega)]
    rfl
theorem sumN_add (f g : Nat → Int) : ∀ n, sumN n (fun i => f i + g i) = sumN n f + sumN n g
  | 0 => rfl
  | n + 1 => by
    show sumN n _ + (f n + g n) = (sumN n f + f n) + (sumN n g + g n)
    rw [sumN_add f g n]
    omega
theorem sumN_mul (a : Int) (f : Nat → Int) : ∀ n, sumN n (fun i => a * f i) = a * sumN n f
  | 0 => by show (0 : Int) = a * 0; rw [Int.mul_zero]
  | n + 1 => by
    show sumN n _ + _ = a * (sumN n f + f n)
    rw [sumN_mul a f n, Int.mul_add]
theorem sumN_one {f : Nat → Int} {n k : Nat} (hk : k < n) (h : ∀ i, i < n → i ≠ k → f i = 0) : sumN n f = f k := by
  induction n with
  | zero => omega
  | succ n ih =>
    show sumN n f + f n = f k
    by_cases e : k = n
    · rw [e, sumN_zero fun i hi => h i (by omega) (by omega), Int.zero_add]
    · rw [ih (by omega) fun i hi hne => h i (by omega) hne, h n (by omega) (fun z => e z.symm), Int.add_zero]
theorem sumN_two {f : Nat → Int} {n k l : Nat} (hk : k < n) (hl : l < n) (hkl : k ≠ l) (h : ∀ i, i < n → i ≠ k → i ≠ l → f i = 0) : sumN n f = f k + f l := by
  have e : sumN n f = sumN n (fun i => (if i = k then f i else 0) + (if i = k then 0 else f i)) := sumN_congr fun i _ => by split <;> omega
  rw [e, sumN_add, sumN_one hk (fun i _ hne => if_neg hne), sumN_one hl (fun i hi hne => by
    show (if i = k then 0 else f i) = 0
    split
    · rfl
    · rename_i z; exact h i hi z hne), if_pos rfl, if_neg (fun z => hkl z.symm)]
theorem sumN_comm (f : Nat → Nat → Int) : ∀ m n, sumN m (fun i => sumN n (fun j => f i j)) = sumN n (fun j => sumN m (fun i => f i j))
  | 0, n => (sumN_zero fun _ _ => rfl).symm
  | m + 1, n => by
    show sumN m _ + sumN n _ = sumN n (fun j => sumN m (fun i => f i j) + f m j)
    rw [sumN_add, sumN_comm f m n]
/-- antisymmetric double sums -/
theorem sumN_anti {T : Nat → Nat → Int} : ∀ {n : Nat}, (∀ i j, i ≤ j → j < n → T i j + T (j + 1) i = 0) → sumN (n + 1) (fun i => sumN n (fun j => T i j)) = 0
  | 0, _ => rfl
  | n + 1, h => by
    have ih := sumN_anti (n := n) (T := T) fun i j hij hj => h i j hij (by omega)
    show sumN (n + 1) (fun i => sumN n (fun j => T i j) + T i n) + (sumN (n + 1) fun j => T (n + 1) j) = 0
    rw [sumN_add, ih, Int.zero_add, ← sumN_add]
    exact sumN_zero fun i hi => h i n (by omega) (by omega)
def skip (i k : Nat) : Nat := if k < i then k else k + 1
def sgn (i : Nat) : Int := if i % 2 = 0 then 1 else -1
theorem sgn_succ (i : Nat) : sgn (i + 1) = -sgn i := by
  unfold sgn
  by_cases h : i % 2 = 0
  · rw [if_pos h, if_neg (by omega)]
  · rw [if_neg h, if_pos (by omega)]; rfl
theorem skip_lt {n i k : Nat} (h : k < n) : skip i k < n + 1 := by
  unfold skip
  split <;> omega
/-- a matrix by its columns -/
abbrev Mx := Nat → Nat → Int
def cu (m : Mx) (p : Nat) (u : Nat → Int) : Mx := fun j => if j = p then u else m j
theorem cu_same {m : Mx} {p : Nat} {u : Nat → Int} : cu m p u p = u := if_pos rfl
theorem cu_ne {m : Mx} {p j : Nat} {u : Nat → Int} (h : j ≠ p) : cu m p u j = m j := if_neg h
def minor (m : Mx) (i : Nat) : Mx := fun j k => m (j + 1) (skip i k)
def det : Nat → Mx → Int
  | 0, _ => 1
  | n + 1, m => sumN (n + 1) fun i => sgn i * m 0 i * det n (minor m i)
theorem det_congr : ∀ {n : Nat} {m m' : Mx}, (∀ j i, j < n → i < n → m j i = m' j i) → det n m = det n m'
  | 0, _, _, _ => rfl
  | n + 1, m, m', h => sumN_congr fun i hi => by
    rw [h 0 i (by omega) hi, det_congr (m := minor m i) (m' := minor m' i) fun j k hj hk => h (j + 1) (skip i k) (by omega) (skip_lt hk)]
theorem det_lin : ∀ {n : Nat} {m : Mx} {p : Nat} (a b : Int) (u v : Nat → Int), p < n → det n (cu m p fun i => a * u i + b * v i) = a * det n (cu m p u) + b * det n (cu m p v)
  | 0, _, _, _, _, _, _, h => absurd h (Nat.not_lt_zero _)
  | n + 1, m, 0, a, b, u, v, _ => by
    have e : ∀ (w : Nat → Int) (i : Nat), minor (cu m 0 w) i = minor m i := fun w i => by funext j k; rfl
    show sumN (n + 1) _ = a * sumN (n + 1) _ + b * sumN (n + 1) _
    rw [← sumN_mul, ← sumN_mul, ← sumN_add]
    refine sumN_congr fun i _ => ?_
    rw [e, e, e, cu_same, cu_same, cu_same]
    show sgn i * (a * u i + b * v i) * _ = a * (sgn i * u i * _) + b * (sgn i * v i * _)
    grind
  | n + 1, m, p + 1, a, b, u, v, h => by
    have e : ∀ (w : Nat → Int) (i : Nat), minor (cu m (p + 1) w) i = cu (minor m i) p (fun k => w (skip i k)) := fun w i => by
      funext j k
      show (if j + 1 = p + 1 then w else m (j + 1)) (skip i k) = (if j = p then (fun k => w (skip i k)) else minor m i j) k
      by_cases z : j = p
      · rw [if_pos z, if_pos (by omega)]
      · rw [if_neg z, if_neg (by omega)]; rfl
    show sumN (n + 1) _ = a * sumN (n + 1) _ + b * sumN (n + 1) _
    rw [← sumN_mul, ← sumN_mul, ← sumN_add]
    refine sumN_congr fun i _ => ?_
    rw [e, e, e, cu_ne (by omega), cu_ne (by omega), cu_ne (by omega)]
    have := det_lin (n := n) (m := minor m i) (p := p) a b (fun k => u (skip i k)) (fun k => v (skip i k)) (by omega)
    rw [this]
    grind
theorem skip_skip {i j k : Nat} (h : i ≤ j) : skip i (skip j k) = skip (j + 1) (skip i k) := by
  unfold skip
  by_cases h1 : k < i
  · rw [if_pos (show k < j by omega), if_pos h1, if_pos (show k < j + 1 by omega)]
  · by_cases h2 : k < j
    · rw [if_pos h2, if_neg h1, if_pos (show k + 1 < j + 1 by omega)]
    · rw [if_neg h2, if_neg (show ¬ k + 1 < i by omega), if_neg h1, if_neg (show ¬ k + 1 < j + 1 by omega)]
def Alt (n : Nat) : Prop := ∀ (m : Mx) (p q : Nat), p < q → q < n → (∀ i, i < n → m p i = m q i) → det n m = 0
theorem cu_self {m : Mx} {p : Nat} : cu m p (m p) = m := by
  funext j
  by_cases h : j = p
  · rw [h, cu_same]
  · rw [cu_ne h]
theorem cu_cu {m : Mx} {p : Nat} {u v : Nat → Int} : cu (cu m p u) p v = cu m p v := by
  funext j
  by_cases h : j = p
  · rw [h, cu_same, cu_same]
  · rw [cu_ne h, cu_ne h, cu_ne h]
theorem cu_comm {m : Mx} {p q : Nat} {u v : Nat → Int} (h : p ≠ q) : cu (cu m p u) q v = cu (cu m q v) p u := by
  funext j
  by_cases h1 : j = p
  · rw [h1, cu_same, cu_ne h, cu_same]
  · by_cases h2 : j = q
    · rw [h2, cu_same, cu_ne (fun z => h z.symm), cu_same]
    · rw [cu_ne h2, cu_ne h1, cu_ne h1, cu_ne h2]
/-- exchanged columns -/
theorem det_swap {n : Nat} (al : Alt n) {m : Mx} {p q : Nat} (hp : p < n) (hq : q < n) (h : p ≠ q) (u v : Nat → Int) : det n (cu (cu m p u) q v) = -det n (cu (cu m p v) q u) := by
  have al' : ∀ w, det n (cu (cu m p w) q w) = 0 := fun w => by
    rcases Nat.lt_or_gt_of_ne h with z | z
    · exact al _ p q z hq fun i _ => by rw [cu_same, cu_ne h, cu_same]
    · exact al _ q p z hp fun i _ => by rw [cu_same, cu_ne h, cu_same]
  have e1 : ∀ a b w, det n (cu (cu m p fun i => a * u i + b * v i) q w) = a * det n (cu (cu m p u) q w) + b * det n (cu (cu m p v) q w) := fun a b w => by
    rw [cu_comm h, cu_comm h, cu_comm h]
    exact det_lin a b u v hp
  have s := al' fun i => 1 * u i + 1 * v i
  rw [det_lin 1 1 u v hq, e1 1 1 u, e1 1 1 v, al' u, al' v] at s
  omega
theorem alt_all : ∀ n, Alt n
  | 0 => fun _ _ _ _ h => absurd h (Nat.not_lt_zero _)
  | 1 => fun _ _ _ h1 h2 => by omega
  | n + 2 => by
    have ih := alt_all (n + 1)
    -- the first two columns
    have two : ∀ m : Mx, (∀ i, i < n + 2 → m 0 i = m 1 i) → det (n + 2) m = 0 := fun m he => by
      show sumN (n + 2) (fun i => sgn i * m 0 i * sumN (n + 1) (fun j => sgn j * m 1 (skip i j) * det n (minor (minor m i) j))) = 0
      have e : sumN (n + 2) (fun i => sgn i * m 0 i * sumN (n + 1) (fun j => sgn j * m 1 (skip i j) * det n (minor (minor m i) j))) = sumN (n + 2) (fun i => sumN (n + 1) (fun j => sgn i * m 0 i * (sgn j * m 1 (skip i j) * det n (minor (minor m i) j)))) :=
        sumN_congr fun i _ => (sumN_mul _ _ _).symm
      rw [e]
      refine sumN_anti fun i j hij hj => ?_
      have e1 : skip i j = j + 1 := by unfold skip; rw [if_neg (by omega)]
      have e2 : skip (j + 1) i = i := by unfold skip; rw [if_pos (by omega)]
      have e3 : minor (minor m i) j = minor (minor m (j + 1)) i := by
        funext a b
        show m (a + 1 + 1) (skip i (skip j b)) = m (a + 1 + 1) (skip (j + 1) (skip i b))
        rw [skip_skip hij]
      rw [e1, e2, e3, sgn_succ, he i (by omega), he (j + 1) (by omega)]
      grind
    intro m p q hpq hq he
    cases p with
    | succ p =>
      obtain ⟨q, rfl⟩ : ∃ q', q = q' + 1 := ⟨q - 1, by omega⟩
      exact sumN_zero fun i hi => by
        rw [ih (minor m i) p q (by omega) (by omega) fun k hk => he (skip i k) (skip_lt hk), Int.mul_zero]
    | zero =>
      by_cases h1 : q = 1
      · subst h1; exact two m he
      · -- exchange columns 1 and q
        let m' : Mx := cu (cu m 1 (m q)) q (m 1)
        have h0 : det (n + 2) m' = 0 := two m' fun i hi => by
          show cu (cu m 1 (m q)) q (m 1) 0 i = cu (cu m 1 (m q)) q (m 1) 1 i
          rw [cu_ne (by omega), cu_ne (by omega), cu_ne (fun z => h1 z.symm), cu_same]
          exact he i hi
        have hneg : det (n + 2) m' = -det (n + 2) m := by
          show sumN (n + 2) _ = -sumN (n + 2) _
          have : ∀ i, minor m' i = cu (cu (minor m i) 0 (minor m i (q - 1))) (q - 1) (minor m i 0) := fun i => by
            funext j k
            show cu (cu m 1 (m q)) q (m 1) (j + 1) (skip i k) = _
            by_cases z1 : j = q - 1
            · rw [z1, cu_same, show q - 1 + 1 = q by omega, cu_same]; rfl
            · rw [cu_ne (show j + 1 ≠ q by omega), cu_ne z1]
              by_cases z2 : j = 0
              · rw [z2, cu_same]
                show cu m 1 (m q) 1 (skip i k) = m (q - 1 + 1) (skip i k)
                rw [cu_same, show q - 1 + 1 = q by omega]
              · rw [cu_ne z2, cu_ne (show j + 1 ≠ 1 by omega)]; rfl
          rw [← Int.neg_one_mul, ← sumN_mul]
          refine sumN_congr fun i hi => ?_
          rw [this, det_swap ih (by omega) (by omega) (by omega), show m' 0 = m 0 from by
            show cu (cu m 1 (m q)) q (m 1) 0 = _
            rw [cu_ne (by omega), cu_ne (by omega)]]
          rw [show cu (cu (minor m i) 0 (minor m i 0)) (q - 1) (minor m i (q - 1)) = minor m i by rw [cu_self, cu_self]]
          grind
        omega
theorem det_id : ∀ n, det n (fun j i => if i = j then 1 else 0) = 1
  | 0 => rfl
  | n + 1 => by
    show sumN (n + 1) _ = 1
    rw [sumN_one (k := 0) (by omega) fun i _ hi => by
      show sgn i * (if i = 0 then 1 else 0) * _ = 0
      rw [if_neg hi, Int.mul_zero, Int.zero_mul]]
    show sgn 0 * (if 0 = 0 then 1 else 0) * _ = 1
    rw [if_pos rfl]
    have : minor (fun j i => if i = j then (1 : Int) else 0) 0 = fun j i => if i = j then 1 else 0 := by
      funext j k
      show (if skip 0 k = j + 1 then (1 : Int) else 0) = _
      have : skip 0 k = k + 1 := by unfold skip; rw [if_neg (by omega)]
      rw [this]
      by_cases h : k = j
      · rw [if_pos h, if_pos (by omega)]
      · rw [if_neg h, if_neg (by omega)]
    rw [this, det_id n]
    rfl
theorem det_sum {n : Nat} {m : Mx} {p : Nat} (hp : p < n) (r : Nat → Int) (c : Nat → Nat → Int) : ∀ k, det n (cu m p fun i => sumN k fun t => r t * c t i) = sumN k fun t => r t * det n (cu m p (c t))
  | 0 => by
    have : det n (cu m p fun i => 0 * m p i + 0 * m p i) = 0 := by rw [det_lin 0 0 _ _ hp]; omega
    show det n (cu m p fun i => 0) = 0
    rw [← this]
    exact det_congr fun j i _ _ => by
      by_cases h : j = p
      · rw [h, cu_same, cu_same]; omega
      · rw [cu_ne h, cu_ne h]
  | k + 1 => by
    show det n (cu m p fun i => (sumN k fun t => r t * c t i) + r k * c k i) = (sumN k fun t => r t * det n (cu m p (c t))) + r k * det n (cu m p (c k))
    rw [← det_sum hp r c k]
    have := det_lin (m := m) 1 (r k) (fun i => sumN k fun t => r t * c t i) (c k) hp
    rw [Int.one_mul] at this
    rw [← this]
    exact det_congr fun j i _ _ => by
      by_cases h : j = p
      · rw [h, cu_same, cu_same, Int.one_mul]
      · rw [cu_ne h, cu_ne h]
theorem sumN_abs {f : Nat → Int} {B : Nat} : ∀ {n : Nat}, (∀ i, i < n → (f i).natAbs ≤ B) → (sumN n f).natAbs ≤ n * B
  | 0, _ => Nat.zero_le _
  | n + 1, h => by
    have := sumN_abs (n := n) fun i hi => h i (by omega)
    have h2 := h n (by omega)
    show (sumN n f + f n).natAbs ≤ _
    rw [Nat.succ_mul]
    omega
theorem det_abs {M : Nat} : ∀ {n : Nat} {m : Mx}, (∀ j i, j < n → i < n → (m j i).natAbs ≤ M) → (det n m).natAbs ≤ n ^ n * M ^ n
  | 0, _, _ => by show (1 : Int).natAbs ≤ 1; decide
  | n + 1, m, h => by
    have hs : ∀ i, i < n + 1 → (sgn i * m 0 i * det n (minor m i)).natAbs ≤ M * ((n + 1) ^ n * M ^ n) := fun i hi => by
      rw [Int.natAbs_mul, Int.natAbs_mul]
      have h1 : (sgn i).natAbs = 1 := by unfold sgn; split <;> rfl
      have h2 := h 0 i (by omega) hi
      have h3 := det_abs (n := n) (m := minor m i) fun j k hj hk => h (j + 1) (skip i k) (by omega) (skip_lt hk)
      have h4 : n ^ n * M ^ n ≤ (n + 1) ^ n * M ^ n := Nat.mul_le_mul_right _ (Nat.pow_le_pow_left (by omega) n)
      rw [h1, Nat.one_mul]
      exact Nat.mul_le_mul h2 (Nat.le_trans h3 h4)
    have := sumN_abs hs
    show (sumN (n + 1) _).natAbs ≤ _
    refine Nat.le_trans this (Nat.le_of_eq ?_)
    rw [Nat.pow_succ, Nat.pow_succ]
    grind
/-! ### fraction-free elimination -/
def eN (l : Nat) : Nat → Int := fun i => if i = l then 1 else 0
def bB (A : Mx) (k : Nat) : Mx := fun l => if l < k then A l else eN l
def Rk (n : Nat) (A : Mx) (k : Nat) (j l : Nat) : Int := det n (cu (bB A k) l (A j))
def dk (n : Nat) (A : Mx) (k : Nat) : Int := det n (bB A k)
theorem dk_zero {n : Nat} {A : Mx} : dk n A 0 = 1 := by
  rw [← det_id n]
  exact det_congr fun j i _ _ => by
    show (if j < 0 then A j else eN j) i = _
    rw [if_neg (Nat.not_lt_zero j)]
    rfl
theorem e_sum {n l : Nat} (hl : l < n) (u : Nat → Int) : ∀ i, i < n → u i = sumN n fun t => u t * eN t i := fun i hi => by
  rw [sumN_one hi fun t _ ht => by
    show u t * (if i = t then 1 else 0) = 0
    rw [if_neg (fun z => ht z.symm), Int.mul_zero]]
  show u i = u i * (if i = i then 1 else 0)
  rw [if_pos rfl, Int.mul_one]
/-- a unit matrix with one column exchanged -/
theorem det_e {n l : Nat} (hl : l < n) (u : Nat → Int) : det n (cu (fun j => eN j) l u) = u l := by
  have e : det n (cu (fun j => eN j) l u) = det n (cu (fun j => eN j) l fun i => sumN n fun t => u t * eN t i) := det_congr fun j i _ hi => by
    by_cases h : j = l
    · rw [h, cu_same, cu_same]; exact e_sum hl u i hi
    · rw [cu_ne h, cu_ne h]
  rw [e, det_sum hl u (fun t => eN t) n, sumN_one hl fun t ht hne => ?_]
  · rw [show cu (fun j => eN j) l (eN l) = fun j => eN j from cu_self (m := fun j => eN j) (p := l)]
    have := det_id n
    rw [show det n (fun j => eN j) = 1 from this, Int.mul_one]
  · rcases Nat.lt_or_gt_of_ne hne with z | z
    · rw [alt_all n _ t l z hl fun i _ => by rw [cu_same, cu_ne hne], Int.mul_zero]
    · rw [alt_all n _ l t z ht fun i _ => by rw [cu_same, cu_ne hne], Int.mul_zero]
theorem Rk_zero {n : Nat} {A : Mx} {j l : Nat} (hl : l < n) : Rk n A 0 j l = A j l := by
  rw [← det_e hl (A j)]
  exact det_congr fun j' i _ _ => by
    by_cases h : j' = l
    · rw [h, cu_same, cu_same]
    · rw [cu_ne h, cu_ne h]
      show (if j' < 0 then A j' else eN j') i = _
      rw [if_neg (Nat.not_lt_zero j')]
theorem bB_succ {A : Mx} {k : Nat} : bB A (k + 1) = cu (bB A k) k (A k) := by
  funext l
  by_cases h : l = k
  · rw [h, cu_same]
    show (if k < k + 1 then A k else eN k) = A k
    rw [if_pos (by omega)]
  · rw [cu_ne h]
    show (if l < k + 1 then A l else eN l) = (if l < k then A l else eN l)
    by_cases h2 : l < k
    · rw [if_pos h2, if_pos (by omega)]
    · rw [if_neg h2, if_neg (by omega)]
theorem dk_succ {n : Nat} {A : Mx} {k : Nat} : dk n A (k + 1) = Rk n A k k k := by unfold dk Rk; rw [bB_succ]
theorem Rk_same {n : Nat} {A : Mx} {k j : Nat} : Rk n A (k + 1) j k = Rk n A k j k := by unfold Rk; rw [bB_succ, cu_cu]
/-- the columns by the basis -/
def Bas (n : Nat) (A : Mx) (k : Nat) : Prop := ∀ j i, i < n → dk n A k * A j i = sumN n fun l => Rk n A k j l * bB A k l i
theorem bas_zero {n : Nat} {A : Mx} : Bas n A 0 := fun j i hi => by
  rw [dk_zero, Int.one_mul, e_sum hi (A j) i hi]
  exact sumN_congr fun l hl => by
    rw [Rk_zero hl]
    show _ = _ * (if l < 0 then A l else eN l) i
    rw [if_neg (Nat.not_lt_zero l)]
theorem Rk_other {n : Nat} {A : Mx} {k j l : Nat} (hb : Bas n A k) (hk : k < n) (hl : l < n) (hne : l ≠ k) : dk n A k * Rk n A (k + 1) j l = Rk n A k k k * Rk n A k j l - Rk n A k k l * Rk n A k j k := by
  have e1 : dk n A k * Rk n A (k + 1) j l = det n (cu (cu (bB A k) k (A k)) l fun i => dk n A k * A j i) := by
    unfold Rk
    rw [bB_succ]
    have := det_lin (m := cu (bB A k) k (A k)) (p := l) (dk n A k) 0 (A j) (A j) hl
    rw [Int.zero_mul, Int.add_zero] at this
    rw [← this]
    exact det_congr fun j' i _ _ => by
      by_cases h : j' = l
      · rw [h, cu_same, cu_same]; omega
      · rw [cu_ne h, cu_ne h]
  have e2 : det n (cu (cu (bB A k) k (A k)) l fun i => dk n A k * A j i) = det n (cu (cu (bB A k) k (A k)) l fun i => sumN n fun t => Rk n A k j t * bB A k t i) := det_congr fun j' i _ hi => by
    by_cases h : j' = l
    · rw [h, cu_same, cu_same]; exact hb j i hi
    · rw [cu_ne h, cu_ne h]
  rw [e1, e2, det_sum hl (fun t => Rk n A k j t) (fun t => bB A k t) n, sumN_two hl hk hne fun t ht h1 h2 => ?_]
  · have e3 : det n (cu (cu (bB A k) k (A k)) l (bB A k l)) = Rk n A k k k := by
      unfold Rk
      rw [cu_comm (fun z => hne z.symm), cu_self]
    have e4 : det n (cu (cu (bB A k) k (A k)) l (bB A k k)) = -Rk n A k k l := by
      unfold Rk
      rw [det_swap (alt_all n) hk hl (fun z => hne z.symm), cu_self]
    rw [e3, e4]
    grind
  · have hz : det n (cu (cu (bB A k) k (A k)) l (bB A k t)) = 0 := by
      rcases Nat.lt_or_gt_of_ne h1 with z | z
      · exact alt_all n _ t l z hl fun i _ => by rw [cu_same, cu_ne h1, cu_ne h2]
      · exact alt_all n _ l t z ht fun i _ => by rw [cu_same, cu_ne h1, cu_ne h2]
    rw [hz, Int.mul_zero]
theorem bas_succ {n : Nat} {A : Mx} {k : Nat} (hb : Bas n A k) (hk : k < n) (hd : dk n A k ≠ 0) : Bas n A (k + 1) := fun j i hi => by
  have h1 := hb j i hi
  have h2 := hb k i hi
  refine Int.eq_of_mul_eq_mul_left hd ?_
  rw [← sumN_mul]
  -- both sums without their k-th part
  have split : ∀ f : Nat → Int, sumN n f = f k + sumN n fun l => if l = k then 0 else f l := fun f => by
    have e : sumN n f = sumN n (fun l => (if l = k then f l else 0) + (if l = k then 0 else f l)) := sumN_congr fun l _ => by split <;> omega
    rw [e, sumN_add, sumN_one hk fun l _ hne => if_neg hne, if_pos rfl]
  rw [split] at h1 h2
  rw [split (fun l => dk n A k * (Rk n A (k + 1) j l * bB A (k + 1) l i))]
  have e1 : (sumN n fun l => if l = k then 0 else dk n A k * (Rk n A (k + 1) j l * bB A (k + 1) l i)) = Rk n A k k k * (sumN n fun l => if l = k then 0 else Rk n A k j l * bB A k l i) + (-Rk n A k j k) * (sumN n fun l => if l = k then 0 else Rk n A k k l * bB A k l i) := by
    rw [← sumN_mul, ← sumN_mul, ← sumN_add]
    refine sumN_congr fun l hl => ?_
    by_cases h : l = k
    · rw [if_pos h, if_pos h, if_pos h]; omega
    · rw [if_neg h, if_neg h, if_neg h, ← Int.mul_assoc, Rk_other hb hk hl h]
      have : bB A (k + 1) l i = bB A k l i := by rw [bB_succ, cu_ne h]
      rw [this]
      grind
  have e2 : bB A (k + 1) k i = A k i := by rw [bB_succ, cu_same]
  rw [e1, e2, Rk_same, dk_succ]
  grind
theorem bas_all {n : Nat} {A : Mx} : ∀ {k : Nat}, k ≤ n → (∀ m, m < k → dk n A m ≠ 0) → Bas n A k
  | 0, _, _ => bas_zero
  | k + 1, hk, hd => bas_succ (bas_all (k := k) (by omega) fun m hm => hd m (by omega)) (by omega) (hd k (by omega))
/-- the elimination as it is reckoned -/
def el (A : Mx) : Nat → Mx
  | 0 => A
  | k + 1 => fun j i => if i = k then el A k j k else (el A k k k * el A k j i - el A k k i * el A k j k) / (match k with | 0 => 1 | m + 1 => el A m m m)
def piv (A : Mx) : Nat → Int
  | 0 => 1
  | m + 1 => el A m m m
theorem el_succ {A : Mx} {k j i : Nat} : el A (k + 1) j i = if i = k then el A k j k else (el A k k k * el A k j i - el A k k i * el A k j k) / piv A k := by
  cases k <;> rfl
theorem el_Rk {n : Nat} {A : Mx} : ∀ {k : Nat}, k ≤ n → (∀ m, m ≤ k → piv A m ≠ 0) → (∀ j i, i < n → el A k j i = Rk n A k j i) ∧ ∀ m, m ≤ k → piv A m = dk n A m
  | 0, _, _ => ⟨fun j i hi => (Rk_zero hi).symm, fun m hm => by
    have : m = 0 := by omega
    subst this
    exact dk_zero.symm⟩
  | k + 1, hk, hp => by
    obtain ⟨h1, h2⟩ := el_Rk (n := n) (A := A) (k := k) (by omega) fun m hm => hp m (by omega)
    have hb : Bas n A k := bas_all (by omega) fun m hm => by rw [← h2 m (by omega)]; exact hp m (by omega)
    refine ⟨fun j i hi => ?_, fun m hm => ?_⟩
    · rw [el_succ]
      by_cases h : i = k
      · rw [if_pos h, h, Rk_same]; exact h1 j k (by omega)
      · rw [if_neg h, h1 k k (by omega), h1 j i hi, h1 k i hi, h1 j k (by omega), ← Rk_other hb (by omega) hi h, h2 k (Nat.le_refl _)]
        exact Int.mul_ediv_cancel_left _ (by rw [← h2 k (Nat.le_refl _)]; exact hp k (by omega))
    · by_cases h : m = k + 1
      · subst h
        show el A k k k = _
        rw [dk_succ]
        exact h1 k k (by omega)
      · exact h2 m (by omega)
/-- exactly divided -/
theorem el_exact {n : Nat} {A : Mx} {k j i : Nat} (hk : k < n) (hp : ∀ m, m ≤ k → piv A m ≠ 0) (hi : i < n) (hne : i ≠ k) : el A k k k * el A k j i - el A k k i * el A k j k = piv A k * Rk n A (k + 1) j i := by
  obtain ⟨h1, h2⟩ := el_Rk (n := n) (by omega) hp
  have hb : Bas n A k := bas_all (by omega) fun m hm => by rw [← h2 m (by omega)]; exact hp m (by omega)
  rw [h1 k k hk, h1 j i hi, h1 k i hi, h1 j k hk, ← Rk_other hb hk hi hne, h2 k (Nat.le_refl _)]
/-- rows exchanged -/
def exch (p q i : Nat) : Nat := if i = p then q else if i = q then p else i
def rx (A : Mx) (p q : Nat) : Mx := fun j i => A j (exch p q i)
theorem exch_lt {p q i : Nat} (hp : i < p) (hq : i < q) : exch p q i = i := by unfold exch; rw [if_neg (by omega), if_neg (by omega)]
theorem exch_ne {p q i k : Nat} (hp : k < p) (hq : k < q) (h : i ≠ k) : exch p q i ≠ k := by unfold exch; split <;> (try split) <;> omega
theorem el_rx {A : Mx} {p q : Nat} : ∀ {k : Nat}, k ≤ p → k ≤ q → (∀ j i, el (rx A p q) k j i = el A k j (exch p q i)) ∧ ∀ m, m ≤ k → piv (rx A p q) m = piv A m
  | 0, _, _ => ⟨fun _ _ => rfl, fun m hm => by
    have : m = 0 := by omega
    subst this
    rfl⟩
  | k + 1, hp, hq => by
    obtain ⟨h1, h2⟩ := el_rx (A := A) (p := p) (q := q) (k := k) (by omega) (by omega)
    refine ⟨fun j i => ?_, fun m hm => ?_⟩
    · rw [el_succ, el_succ, h1, h1, h1, h1, h2 k (Nat.le_refl _), exch_lt (i := k) (by omega) (by omega)]
      by_cases h : i = k
      · rw [if_pos h, h, exch_lt (i := k) (by omega) (by omega), if_pos rfl]
      · rw [if_neg h, if_neg (exch_ne (by omega) (by omega) h)]
    · by_cases h : m = k + 1
      · subst h
        show el (rx A p q) k k k = el A k k k
        rw [h1, exch_lt (by omega) (by omega)]
      · exact h2 m (by omega)
/-- where the square part has no kernel there is a row with a number other than 0 -/
theorem pivot_there {n : Nat} {A : Mx} {k : Nat} (hk : k < n) (hp : ∀ m, m ≤ k → piv A m ≠ 0) (hker : ∀ x : Nat → Int, (∀ i, i < n → (sumN n fun c => A c i * x c) = 0) → ∀ c, c < n → x c = 0) : ∃ i, k ≤ i ∧ i < n ∧ el A k k i ≠ 0 := by
  obtain ⟨h1, h2⟩ := el_Rk (n := n) (by omega) hp
  have hb : Bas n A k := bas_all (by omega) fun m hm => by rw [← h2 m (by omega)]; exact hp m (by omega)
  refine Classical.byContradiction fun hno => ?_
  have hz : ∀ i, k ≤ i → i < n → Rk n A k k i = 0 := fun i h3 h4 => by
    rw [← h1 k i h4]
    exact Classical.byContradiction fun h5 => hno ⟨i, h3, h4, h5⟩
  have hx := hker (fun c => if c = k then dk n A k else if c < k then -Rk n A k k c else 0) (fun i hi => ?_) k hk
  · rw [if_pos rfl, ← h2 k (Nat.le_refl _)] at hx
    exact hp k (Nat.le_refl _) hx
  · have hbi := hb k i hi
    have e1 : (sumN n fun c => A c i * (if c = k then dk n A k else if c < k then -Rk n A k k c else 0)) = sumN n fun c => (if c = k then dk n A k * A k i else 0) + (-1) * (Rk n A k k c * bB A k c i) := sumN_congr fun c hc => by
      by_cases hck : c = k
      · rw [if_pos hck, if_pos hck, hck, hz k (Nat.le_refl _) hk]; grind
      · rw [if_neg hck, if_neg hck]
        by_cases hlt : c < k
        · rw [if_pos hlt]
          show _ = 0 + -1 * (_ * (if c < k then A c else eN c) i)
          rw [if_pos hlt]
          grind
        · rw [if_neg hlt, hz c (by omega) hc]; omega
    rw [e1, sumN_add, sumN_mul, ← hbi, sumN_one hk fun c _ hne => if_neg hne, if_pos rfl]
    omega
/-- the end: what is solved -/
theorem el_end {n : Nat} {A : Mx} (hp : ∀ m, m ≤ n → piv A m ≠ 0) : (∀ l c, l < n → c < n → el A n c l = if c = l then piv A n else 0) ∧ ∀ j i, i < n → piv A n * A j i = sumN n fun l => el A n j l * A l i := by
  obtain ⟨h1, h2⟩ := el_Rk (n := n) (Nat.le_refl _) hp
  have hb : Bas n A n := bas_all (Nat.le_refl _) fun m hm => by rw [← h2 m (by omega)]; exact hp m (by omega)
  have eB : ∀ l, l < n → bB A n l = A l := fun l hl => by
    show (if l < n then A l else eN l) = A l
    rw [if_pos hl]
  refine ⟨fun l c hl hc => ?_, fun j i hi => ?_⟩
  · rw [h1 c l hl, h2 n (Nat.le_refl _)]
    unfold Rk dk
    by_cases h : c = l
    · rw [if_pos h, h]
      rw [← eB l hl, cu_self]
    · rw [if_neg h]
      rcases Nat.lt_or_gt_of_ne h with z | z
      · exact alt_all n _ c l z hl fun i _ => by rw [cu_same, cu_ne h, eB c hc]
      · exact alt_all n _ l c z hc fun i _ => by rw [cu_same, cu_ne h, eB c hc]
  · rw [h2 n (Nat.le_refl _), hb j i hi]
    exact sumN_congr fun l hl => by rw [h1 j l hl, eB l hl]
theorem el_abs {n M : Nat} {A : Mx} {k j i W : Nat} (hM : 1 ≤ M) (hk : k ≤ n) (hn : n ≤ W) (hj : j < W) (hp : ∀ m, m ≤ k → piv A m ≠ 0) (hi : i < n) (hA : ∀ j i, j < W → i < n → (A j i).natAbs ≤ M) : (el A k j i).natAbs ≤ n ^ n * M ^ n := by
  obtain ⟨h1, _⟩ := el_Rk hk hp
  rw [h1 j i hi]
  refine det_abs fun a b ha hb => ?_
  by_cases h : a = i
  · rw [h, cu_same]; exact hA j b hj hb
  · rw [cu_ne h]
    show ((if a < k then A a else eN a) b).natAbs ≤ M
    split
    · exact hA a b (by omega) hb
    · show (if b = a then (1 : Int) else 0).natAbs ≤ M
      split
      · exact hM
      · exact Nat.zero_le _
end El

set_option Elab.async false
set_option linter.all false
set_option maxRecDepth 100000
set_option maxHeartbeats 4000000
namespace El
open PySem PySem.Spec L2
variable [LawTabs]
/-! ### great numbers, shares -/
def CDivZ (_ j : Int) : Prop := j ≠ 0 ∧ j.natAbs.log2 < 9000
theorem op_fdivZ {X : Cx} : OpR X (binaryOp .FloorDiv) (rI CDivZ fun i j => .int (i.fdiv j)) := opI fun _ _ _ _ _ _ _ hc q => PyProof.Rows.floordiv_int hc.1 q (.inl (PyProof.noPylong_of_log2 hc.2))
theorem divZ {i j : Int} {b : Nat} (h : j ≠ 0) (hb : j.natAbs < 2 ^ b) (h0 : 0 < b) (h9 : b ≤ 9000) : CDivZ i j := ⟨h, Nat.lt_of_lt_of_le (PySem.Flt.log2_lt_of h0 hb) h9⟩
theorem share_num {n d : Int} (hd : d ≠ 0) : n.fdiv (if d < 0 then 0 - (Int.gcd n d : Int) else (Int.gcd n d : Int)) = (Rat.divInt n d).num ∧ d.fdiv (if d < 0 then 0 - (Int.gcd n d : Int) else (Int.gcd n d : Int)) = ((Rat.divInt n d).den : Int) := by
  have hg0 : Int.gcd n d ≠ 0 := fun z => hd (Int.gcd_eq_zero_iff.mp z).2
  have h1 : (Int.gcd n d : Int) ∣ n := Int.gcd_dvd_left ..
  have h2 : (Int.gcd n d : Int) ∣ d := Int.gcd_dvd_right ..
  have e : Int.gcd d n = Int.gcd n d := Int.gcd_comm _ _
  rw [Rat.num_divInt, Rat.den_divInt, e, if_neg hd]
  generalize Int.gcd n d = g at *
  obtain ⟨a, rfl⟩ := h1
  obtain ⟨b, rfl⟩ := h2
  have hg : (0 : Int) < g := by omega
  have hb : b ≠ 0 := fun z => hd (by rw [z, Int.mul_zero])
  by_cases h : b < 0
  · have h0 : (g : Int) * b < 0 := Int.mul_neg_of_pos_of_neg hg h
    rw [if_pos h0]
    have s : ((g : Int) * b).sign = -1 := Int.sign_eq_neg_one_of_neg h0
    rw [s]
    have d1 : (0 - (g : Int)) ∣ g * a := ⟨-a, by grind⟩
    have d2 : (0 - (g : Int)) ∣ g * b := ⟨-b, by grind⟩
    rw [Int.fdiv_eq_ediv_of_dvd d1, Int.fdiv_eq_ediv_of_dvd d2]
    refine ⟨?_, ?_⟩
    · rw [show (0 - (g : Int)) = -g by omega, Int.ediv_neg, Int.mul_ediv_cancel_left _ (by omega), show (-1 : Int) * (g * a) = g * (-a) by grind, Int.mul_ediv_cancel_left _ (by omega)]
    · rw [show (0 - (g : Int)) = -g by omega, Int.ediv_neg, Int.mul_ediv_cancel_left _ (by omega), Int.natAbs_mul, Int.natAbs_natCast, Nat.mul_div_cancel_left _ (by omega)]
      omega
  · have h0 : ¬ (g : Int) * b < 0 := by
      have : 0 ≤ (g : Int) * b := Int.mul_nonneg (by omega) (by omega)
      omega
    rw [if_neg h0]
    have s : ((g : Int) * b).sign = 1 := Int.sign_eq_one_of_pos (Int.mul_pos hg (by omega))
    rw [s, Int.one_mul, Int.fdiv_eq_ediv_of_dvd ⟨a, rfl⟩, Int.fdiv_eq_ediv_of_dvd ⟨b, rfl⟩, Int.mul_ediv_cancel_left _ (by omega), Int.mul_ediv_cancel_left _ (by omega), Int.natAbs_mul, Int.natAbs_natCast, Nat.mul_div_cancel_left _ (by omega)]
    exact ⟨rfl, by omega⟩
theorem gcd_step {a b : Int} : Int.gcd b (a.fmod b) = Int.gcd a b := by
  rw [Int.fmod_def, Int.mul_comm, Int.gcd_sub_mul_right_right, Int.gcd_comm]
theorem fmod_lt {a b : Int} (h : b ≠ 0) : (a.fmod b).natAbs < b.natAbs := by
  by_cases hb : 0 < b
  · have h1 := Int.fmod_lt_of_pos a hb
    have h2 := Int.fmod_nonneg_of_pos a hb
    omega
  · rw [Int.fmod_eq_emod]
    have h1 := Int.emod_lt_of_pos a (show 0 < -b by omega)
    rw [Int.emod_neg] at h1
    have h2 := Int.emod_nonneg a h
    split
    · omega
    · rename_i z
      have : a % b ≠ 0 := fun z2 => z (.inr (Int.dvd_of_emod_eq_zero z2))
      omega
section
variable {K : PySem.W.Frag} {σ : St} {F H F' H' : Hp} {ta tb tc td te tl : TE} {α β γ : Type} {R : Rp α} {S : Rp β} {x : α} {y : β} {xs : List α} {D : Ends} {E : XK} {i j : Int} {C : Addr}
theorem ev_fdivZ (ha : Ev rInt ta σ F H i) (hb : Ev rInt tb σ F H j) (hc : CDivZ i j) : Ev rInt (tOp (rI CDivZ fun i j => .int (i.fdiv j)) ta tb) σ F H (i.fdiv j) := ev_I ha hb hc fun _ => rfl
theorem ev_modN (ha : Ev rInt ta σ F H i) (hb : Ev rInt tb σ F H j) (hc : j ≠ 0) : Ev rInt (tOp (rI (fun _ j => j ≠ 0) fun i j => .int (i.fmod j)) ta tb) σ F H (i.fmod j) := ev_I ha hb hc fun _ => rfl
theorem ev_abs (ha : Ev rInt ta σ F H i) : Ev rInt (tCB (fun xs H Q => ∃ i, xs = [.int i] ∧ Q (.int (if i < 0 then -i else i)) H) (tCons ta tNil)) σ F H (i.natAbs : Int) := fun F1 H1 g1 Q q =>
  ha F1 H1 g1 _ fun v F2 H2 g2 r => ⟨i, by rw [show v = _ from r], q _ F2 H2 g2 (by
    show V.int _ = V.int _
    split
    · rw [show (i.natAbs : Int) = -i by omega]
    · rw [show (i.natAbs : Int) = i by omega])⟩
/-- x, y = e1, e2 -/
theorem x_par {a b : Nat} (e : ExT F H) (ha : Ev R ta σ F H x) (hb : Ev S tb σ F H y) (k : ∀ v w F' H', Gr M0 F H F' H' → R F' v x → S F' w y → D.nx ((σ.set a (some v)).set b (some w)) H') (m : Mn R := by infer_instance) : tPar a b (tCons ta (tCons tb tNil)) D σ H :=
  ha F H (.refl e) _ fun v F1 H1 g1 r1 => hb F1 H1 g1 _ fun w F2 H2 g2 r2 => ⟨v, w, rfl, k v w F2 H2 (g1.trans g2) (m.mono g2.ff r1) r2⟩
/-- xs[p], xs[q] = e1, e2: of a list that may change -/
theorem x_swapI {to1 to2 tp tq : TE} {l : Addr} {vs : List V} {p q : Nat} (e : ExT F H) (ha : Ev R ta σ F H x) (hb : Ev S tb σ F H y) (fl : F l = none) (hl : H l = some (.lst vs)) (hp : p < vs.length) (hq : q < vs.length)
    (ho1 : ∀ H1 Q, (Q (.ref l) H1 → to1 σ H1 Q)) (hi1 : ∀ H1 Q, (Q (.int (p : Int)) H1 → tp σ H1 Q)) (ho2 : ∀ H1 Q, (Q (.ref l) H1 → to2 σ H1 Q)) (hi2 : ∀ H1 Q, (Q (.int (q : Int)) H1 → tq σ H1 Q))
    (k : ∀ v w F' H', Gr M0 F H F' H' → R F' v x → S F' w y → H' l = some (.lst vs) → D.nx σ (upd (upd H' l (.lst (vs.set p v))) l (.lst ((vs.set p v).set q w)))) (m : Mn R := by infer_instance) (n : Mn S := by infer_instance) :
    tAsg (tTup (tCons ta (tCons tb tNil))) (gTup K 2 (gCons (gSub to1 tp rSetL) (gCons (gSub to2 tq rSetL) gNil))) D σ H :=
  ha F H (.refl e) _ fun v F1 H1 g1 r1 => hb F1 H1 g1 _ fun w F2 H2 g2 r2 => ⟨by show 2 ≤ sizeLine; decide, fun B hB => by
    have g3 : Gr M0 F2 H2 (upd F2 B (.tup [v, w])) (upd H2 B (.tup [v, w])) := .new g2.fh hB
    have g := g1.trans (g2.trans g3)
    have h3 := g.hx _ _ hl
    have ix : ∀ {n k : Nat}, k < n → ixN n (k : Int) = some k := fun {n k} h => by
      unfold ixN
      rw [if_pos (by omega), if_pos (by omega)]
      rfl
    refine ⟨B, [v, w], rfl, SqT.of upd_same, rfl, v, [w], rfl, ?_⟩
    refine ho1 _ _ (hi1 _ _ ⟨l, vs, (p : Int), p, rfl, rfl, h3, ix hp, ?_⟩)
    refine ⟨w, [], rfl, ?_⟩
    refine ho2 _ _ (hi2 _ _ ⟨l, _, (q : Int), q, rfl, rfl, upd_same, ix (by rw [List.length_set]; exact hq), ?_⟩)
    exact ⟨rfl, k v w _ _ g (m.mono (g2.ff.trans g3.ff) r1) (n.mono g3.ff r2) h3⟩⟩
/-! shares -/
def rShare (C : Addr) : Rp Rat := fun H v r => ∃ a dx, v = .ref a ∧ H a = some (.ins C dx [("top", .int r.num), ("bottom", .int (r.den : Int))])
instance : Mn (rShare C) := ⟨fun e ⟨a, dx, h1, h2⟩ => ⟨a, dx, h1, e _ _ h2⟩⟩
instance : NotN (rShare C) := ⟨fun ⟨_, _, h, _⟩ e => by rw [h] at e; cases e⟩
theorem fld_top (c : Cls K C) (n : NoAttr K C "top") : IsF (rShare C) K "top" rInt Rat.num := ⟨fun ⟨a, dx, h1, h2⟩ => ⟨a, C, dx, _, _, h1, h2, c, n, rfl, rfl⟩⟩
theorem fld_bottom (c : Cls K C) (n : NoAttr K C "bottom") : IsF (rShare C) K "bottom" rNat Rat.den := ⟨fun ⟨a, dx, h1, h2⟩ => ⟨a, C, dx, _, _, h1, h2, c, n, rfl, rfl⟩⟩
def SpShare (C : Addr) : Sp := fun vs H Q _ => ∃ (F : Hp) (a dx : Addr) (n d : Int), vs = [.ref a, .int n, .int d] ∧ ExT F H ∧ F a = none ∧ H a = some (.ins C dx []) ∧ d ≠ 0 ∧ d.natAbs < 2 ^ 9000 ∧
  ∀ F' H', Gr (M1 a) F H F' H' → rShare C F' (.ref a) (Rat.divInt n d) → Q .non H'
instance : SpLen (SpShare C) 3 := ⟨fun ⟨_, _, _, _, _, h, _⟩ => by rw [h]; rfl⟩
theorem ev_Share {n d : Int} (ha : Ev rInt ta σ F H n) (hb : Ev rInt tb σ F H d) (hd : d ≠ 0) (hz : d.natAbs < 2 ^ 9000) : Ev (rShare C) (tMake C (SpShare C) [] E (tCons ta (tCons tb tNil))) σ F H (Rat.divInt n d) := fun F1 H1 g1 Q q =>
  ha F1 H1 g1 _ fun v F2 H2 g2 r => hb F2 H2 (g1.trans g2) _ fun w F3 H3 g3 r3 => fun x dx nx ndx nex => by
    cases (show v = _ from r)
    cases (show w = _ from r3)
    have e1 : ExT F3 (upd (upd H3 dx (.own x)) x (.ins C dx [])) := g3.fh.make nx ndx nex.symm
    exact ⟨F3, x, dx, n, d, rfl, e1, g3.fh.free nx, upd_same, hd, hz, fun F' H' g k => ⟨rfl, q _ F' H' ((g2.trans g3).trans (.made (M := M0) nx ndx nex.symm g)) k⟩⟩
theorem rat_int (n : Int) : Rat.divInt n 1 = (n : Rat) := by rw [Rat.divInt_eq_div]; grind
theorem ev_Share1 {n : Int} (ha : Ev rInt ta σ F H n) : Ev (rShare C) (tMake C (SpShare C) [.int 1] E (tCons ta tNil)) σ F H (n : Rat) := fun F1 H1 g1 Q q =>
  ha F1 H1 g1 _ fun v F2 H2 g2 r => fun x dx nx ndx nex => by
    cases (show v = _ from r)
    have e1 : ExT F2 (upd (upd H2 dx (.own x)) x (.ins C dx [])) := g2.fh.make nx ndx nex.symm
    exact ⟨F2, x, dx, n, 1, rfl, e1, g2.fh.free nx, upd_same, by decide, Nat.lt_of_le_of_lt (show (1 : Int).natAbs ≤ 2 ^ 0 by decide) (Nat.pow_lt_pow_right (by decide) (by decide)), fun F' H' g k => ⟨rfl, q _ F' H' (g2.trans (.made (M := M0) nx ndx nex.symm g)) (by rw [← rat_int]; exact k)⟩⟩
def RShr (C : Addr) : Addr → Addr → Hp → Prop := fun a b H => ∃ F r, ExT F H ∧ rShare C F (.ref a) r ∧ rShare C F (.ref b) r
theorem ev_neShare {r : Rat} (ha : Ev (rShare C) ta σ F H r) (hb : Ev (rShare C) tb σ F H r) : Ev rBl (tOp (rNeG (DIns C (RShr C))) ta tb) σ F H false := fun F1 H1 g1 Q q =>
  ha F1 H1 g1 _ fun v F2 H2 g2 r1 => hb F2 H2 (g1.trans g2) _ fun w F3 H3 g3 r2 => by
    have r' := Mn.mono g3.ff r1
    have r3 := r'
    have r4 := r2
    obtain ⟨a, dx, rfl, h1⟩ := r3
    obtain ⟨b, dy, rfl, h3⟩ := r4
    exact ⟨⟨a, b, dx, dy, _, _, rfl, rfl, g3.fh _ _ h1, g3.fh _ _ h3, F3, r, g3.fh, r', r2⟩, fun H' x => q _ _ H' ((g2.trans g3).trans (Gr.ext g3.fh x)) rfl⟩
theorem ev_isShare {r : Rat} (ha : Ev (rShare C) ta σ F H r) : Ev rBl (tCB (rIsC C) (tCons ta (tCons (tC (.ref C)) tNil))) σ F H true := fun F1 H1 g1 Q q =>
  ha F1 H1 g1 _ fun v F2 H2 g2 ⟨a, dx, e, h1⟩ => ⟨a, dx, _, by rw [e], g2.fh _ _ h1, q _ F2 H2 g2 rfl⟩
end
end El
namespace El
open PySem PySem.Spec L2
variable [LawTabs]
/-- parameters bound, the left-off ones by their defaults -/
structure Bnd (K : PySem.W.Frag) (fd : FuncData) (ps : List Str) (dvs : List V) where
  ds : List Value
  vs : Vals dvs ds
  ok : Binds K fd ps ds
noncomputable def bnd_mk {K : PySem.W.Frag} {fd : FuncData} {ps : List Str} {dvs : List V} (h : ∃ ds, Vals dvs ds ∧ Binds K fd ps ds) : Bnd K fd ps dvs := ⟨h.choose, h.choose_spec.1, h.choose_spec.2⟩
open PyProof.Rows in
theorem _root_.L2.FunD.ok0 {P : Program} {w : World} {mg : Str → Option Value} {base : Heap} {K : PySem.W.Frag} {x qual : Str} {st : Stmt} {dvs : List V} {f : Addr} {fd : FuncData} {N ps : List Str} {k : Nat} {sp : Sp} (F : FunD K x qual (defArgs st) (defBody st) (defScope st) dvs [] f fd) (S : FnScope N ps (defScope st)) (len : ∀ vs H Q E, sp vs H Q E → vs.length = ps.length)
    (hbody : ∀ (cdv : Value) (A : Around) (outer : List Env) (s : Shared) (H : Hp) (vs : List V) (Q : VK) (E : XK), Room k (A.deeper (envOfC qual (defScope st) s.heap.objs.size f cdv)) → sp vs H Q E →
      ∃ t, PSs (cxOf CX0 P w K mg base N qual (defScope st) f cdv A outer s H E).nox (defBody st) t ∧ t { nx := fun _ H' => Q .non H', rt := Q } (L2.start N vs) H) : FnOk P w K mg base CX0 (k + 1) f fd ps sp :=
  L2.FunD.ok F S len fun cdv A outer s H vs Q E hr hsp => by
    obtain ⟨t, ht, hq⟩ := hbody cdv A outer s H vs Q E hr hsp
    exact ⟨t, ht.nox, hq⟩
end El

set_option linter.all false
set_option maxRecDepth 100000
set_option maxHeartbeats 2000000
namespace El
/-! ### solving, over lists -/
theorem getD_eq {α : Type} {xs : List α} {i : Nat} {x d : α} (h : xs[i]? = some x) : xs.getD i d = x := by rw [List.getD_eq_getElem?_getD, h]; rfl
theorem at_getD {α : Type} {xs : List α} {i : Nat} {d : α} (h : i < xs.length) : xs[i]? = some (xs.getD i d) := by rw [List.getD_eq_getElem?_getD, List.getElem?_eq_getElem h]; rfl
theorem getD_range {α : Type} {n i : Nat} {f : Nat → α} {d : α} (h : i < n) : ((List.range n).map f).getD i d = f i := getD_eq (by rw [List.getElem?_map, List.getElem?_range h]; rfl)
def matL (n W : Nat) (f : Mx) : List (List Int) := (List.range n).map fun i => (List.range W).map fun j => f j i
def mxOf (rows : List (List Int)) : Mx := fun j i => (rows.getD i []).getD j 0
theorem matL_len {n W : Nat} {f : Mx} : (matL n W f).length = n := by unfold matL; rw [List.length_map, List.length_range]
theorem matL_row {n W i : Nat} {f : Mx} (h : i < n) : (matL n W f).getD i [] = (List.range W).map fun j => f j i := getD_range h
theorem matL_get {n W i j : Nat} {f : Mx} (hi : i < n) (hj : j < W) : ((matL n W f).getD i []).getD j 0 = f j i := by rw [matL_row hi, getD_range hj]
theorem ext_getD {α : Type} {xs ys : List α} (d : α) (hl : xs.length = ys.length) (h : ∀ i, i < xs.length → xs.getD i d = ys.getD i d) : xs = ys := by
  refine List.ext_getElem? fun i => ?_
  by_cases hi : i < xs.length
  · rw [at_getD hi (d := d), at_getD (hl ▸ hi) (d := d), h i hi]
  · rw [List.getElem?_eq_none (by omega), List.getElem?_eq_none (by omega)]
theorem matL_of {W : Nat} {rows : List (List Int)} (h : ∀ r ∈ rows, r.length = W) : rows = matL rows.length W (mxOf rows) := by
  refine ext_getD [] matL_len.symm fun i hi => ?_
  rw [matL_row hi]
  have hr : (rows.getD i []).length = W := h _ (List.mem_of_getElem? (at_getD hi))
  refine ext_getD 0 (by rw [List.length_map, List.length_range, hr]) fun j hj => ?_
  rw [getD_range (by omega)]
  rfl
theorem matL_congr {n W : Nat} {f g : Mx} (h : ∀ j i, j < W → i < n → f j i = g j i) : matL n W f = matL n W g := by
  unfold matL
  refine List.map_congr_left fun i hi => List.map_congr_left fun j hj => h j i (List.mem_range.mp hj) (List.mem_range.mp hi)
/-- the rows with a pivot -/
def pivAt (rows : List (List Int)) (k : Nat) (p : Nat) : Bool := !decide ((rows.getD (k + p) []).getD k 0 = 0)
def swapM (rows : List (List Int)) (p q : Nat) : List (List Int) := (rows.set p (rows.getD q [])).set q (rows.getD p [])
def pivM (rows : List (List Int)) (k : Nat) : List (List Int) := match (List.range (rows.length - k)).find? (pivAt rows k) with
  | none => rows
  | some p => swapM rows k (k + p)
theorem swap_len {rows : List (List Int)} {p q : Nat} : (swapM rows p q).length = rows.length := by unfold swapM; rw [List.length_set, List.length_set]
theorem swap_get {rows : List (List Int)} {p q i : Nat} (hp : p < rows.length) (hq : q < rows.length) (hi : i < rows.length) : (swapM rows p q).getD i [] = rows.getD (exch p q i) [] := by
  unfold swapM exch
  by_cases h1 : i = q
  · subst h1
    rw [getD_eq (by rw [List.getElem?_set_self (by rw [List.length_set]; exact hq)])]
    by_cases h2 : i = p
    · rw [if_pos h2, h2]
    · rw [if_neg h2, if_pos rfl]
  · have e : ((rows.set p (rows.getD q [])).set q (rows.getD p [])).getD i [] = (rows.set p (rows.getD q [])).getD i [] := by
      rw [List.getD_eq_getElem?_getD, List.getElem?_set_ne (fun z => h1 z.symm), ← List.getD_eq_getElem?_getD]
    rw [e]
    by_cases h2 : i = p
    · subst h2
      rw [if_pos rfl, getD_eq (by rw [List.getElem?_set_self hp])]
    · rw [if_neg h2, if_neg h1, List.getD_eq_getElem?_getD, List.getElem?_set_ne (fun z => h2 z.symm), ← List.getD_eq_getElem?_getD]
theorem swap_mat {n W p q : Nat} {f : Mx} (hp : p < n) (hq : q < n) : swapM (matL n W f) p q = matL n W (rx f p q) := by
  refine ext_getD [] (by rw [swap_len, matL_len, matL_len]) fun i hi => ?_
  rw [swap_len, matL_len] at hi
  rw [swap_get (by rw [matL_len]; exact hp) (by rw [matL_len]; exact hq) (by rw [matL_len]; exact hi), matL_row hi, matL_row]
  · rfl
  · unfold exch
    split
    · exact hq
    · split
      · exact hp
      · exact hi
/-- the rows cleared -/
def clearM (rows : List (List Int)) (k : Nat) (last : Int) : List (List Int) := (List.range rows.length).map fun i =>
  if i = k then rows.getD i [] else ((rows.getD i []).zip (rows.getD k [])).map fun p => ((rows.getD k []).getD k 0 * p.1 - (rows.getD i []).getD k 0 * p.2).fdiv last
theorem clear_mat {n W k : Nat} {A : Mx} (hk : k < n) (hW : n ≤ W) (hp : ∀ m, m ≤ k → piv A m ≠ 0) : clearM (matL n W (el A k)) k (piv A k) = matL n W (el A (k + 1)) := by
  unfold clearM
  rw [matL_len]
  refine List.map_congr_left fun i hi => ?_
  have hi : i < n := List.mem_range.mp hi
  rw [matL_row hi]
  by_cases h : i = k
  · rw [if_pos h]
    refine List.map_congr_left fun j _ => ?_
    rw [el_succ, if_pos h, h]
  · rw [if_neg h, matL_row hk, getD_range (by omega), getD_range (by omega)]
    refine ext_getD 0 (by rw [List.length_map, List.length_zip, List.length_map, List.length_map, List.length_map, List.length_range, Nat.min_self]) fun j hj => ?_
    rw [List.length_map, List.length_zip, List.length_map, List.length_map, List.length_range, Nat.min_self] at hj
    rw [getD_range hj]
    have hz : (((List.range W).map fun j => el A k j i).zip ((List.range W).map fun j => el A k j k))[j]? = some (el A k j i, el A k j k) := by
      rw [List.getElem?_zip_eq_some, List.getElem?_map, List.getElem?_map, List.getElem?_range hj]
      exact ⟨rfl, rfl⟩
    rw [getD_eq (by rw [List.getElem?_map, hz]; rfl), el_succ, if_neg h]
    refine Int.fdiv_eq_ediv_of_dvd ?_
    exact ⟨_, el_exact hk hp hi h⟩
/-- what is asked of rows that are solved -/
structure Solv (rows : List (List Int)) (W M : Nat) : Prop where
  wide : ∀ r ∈ rows, r.length = W
  le : rows.length ≤ W
  few : rows.length ≤ 1000
  wfew : W ≤ 10000
  one : 1 ≤ M
  small : ∀ j i, j < W → i < rows.length → (mxOf rows j i).natAbs ≤ M
  bits : rows.length ^ rows.length * M ^ rows.length < 2 ^ 4000
  ker : ∀ x : Nat → Int, (∀ i, i < rows.length → (sumN rows.length fun c => mxOf rows c i * x c) = 0) → ∀ c, c < rows.length → x c = 0
/-- sums of shares -/
def sumQ : Nat → (Nat → Rat) → Rat
  | 0, _ => 0
  | n + 1, f => sumQ n f + f n
theorem sumQ_congr {f g : Nat → Rat} : ∀ {n : Nat}, (∀ i, i < n → f i = g i) → sumQ n f = sumQ n g
  | 0, _ => rfl
  | n + 1, h => by
    show sumQ n f + f n = sumQ n g + g n
    rw [sumQ_congr fun i hi => h i (by omega), h n (by omega)]
theorem sumQ_mul (a : Rat) (f : Nat → Rat) : ∀ n, sumQ n (fun i => a * f i) = a * sumQ n f
  | 0 => by show (0 : Rat) = a * 0; grind
  | n + 1 => by
    show sumQ n _ + _ = a * (sumQ n f + f n)
    rw [sumQ_mul a f n]
    grind
theorem sumQ_int (f : Nat → Int) : ∀ n, sumQ n (fun i => ((f i : Int) : Rat)) = ((sumN n f : Int) : Rat)
  | 0 => by show (0 : Rat) = ((0 : Int) : Rat); rfl
  | n + 1 => by
    show sumQ n _ + _ = ((sumN n f + f n : Int) : Rat)
    rw [sumQ_int f n, Rat.intCast_add]
theorem sumQ_add (f g : Nat → Rat) : ∀ n, sumQ n (fun i => f i + g i) = sumQ n f + sumQ n g
  | 0 => by show (0 : Rat) = 0 + 0; grind
  | n + 1 => by
    show sumQ n _ + (f n + g n) = (sumQ n f + f n) + (sumQ n g + g n)
    rw [sumQ_add f g n]
    grind
/-- x solves the rows: column c of x for the c-th right side -/
def IsSol (rows : List (List Int)) (W : Nat) (x : List (List Rat)) : Prop := x.length = rows.length ∧ (∀ r ∈ x, r.length = W - rows.length) ∧
  ∀ i c, i < rows.length → c < W - rows.length → sumQ rows.length (fun l => (mxOf rows l i : Rat) * (x.getD l []).getD c 0) = (mxOf rows (rows.length + c) i : Rat)
/-- all denominators made one: a common multiple -/
theorem clear_den : ∀ (n : Nat) (f : Nat → Rat), ∃ D : Int, D ≠ 0 ∧ ∀ i, i < n → ∃ p : Int, (D : Rat) * f i = (p : Rat)
  | 0, _ => ⟨1, by decide, fun i h => absurd h (Nat.not_lt_zero i)⟩
  | n + 1, f => by
    obtain ⟨D, hD, h⟩ := clear_den n f
    have hd : ((f n).den : Int) ≠ 0 := by have := (f n).den_nz; omega
    refine ⟨D * (f n).den, Int.mul_ne_zero hD hd, fun i hi => ?_⟩
    have hn : (((f n).den : Int) : Rat) * f n = ((f n).num : Rat) := by
      have h2 := Rat.num_divInt_den (f n)
      rw [Rat.divInt_eq_div] at h2
      have h3 : (((f n).den : Int) : Rat) ≠ 0 := fun z => hd (by exact Rat.intCast_inj.mp (by rw [z]; rfl))
      grind
    by_cases e : i = n
    · subst e
      refine ⟨D * (f i).num, ?_⟩
      rw [Rat.intCast_mul, Rat.intCast_mul, ← hn]
      grind
    · obtain ⟨p, hp⟩ := h i (by omega)
      refine ⟨(f n).den * p, ?_⟩
      rw [Rat.intCast_mul, Rat.intCast_mul, ← hp]
      grind
theorem ker_rat {n : Nat} {A : Mx} (ker : ∀ x : Nat → Int, (∀ i, i < n → (sumN n fun c => A c i * x c) = 0) → ∀ c, c < n → x c = 0) {f : Nat → Rat} (h : ∀ i, i < n → sumQ n (fun c => (A c i : Rat) * f c) = 0) : ∀ c, c < n → f c = 0 := fun c hc => by
  obtain ⟨D, hD, hp⟩ := clear_den n f
  have hDq : (D : Rat) ≠ 0 := fun z => hD (Rat.intCast_inj.mp (by rw [z]; rfl))
  have hx : ∀ i, i < n → ((Rat.num ((D : Rat) * f i) : Int) : Rat) = (D : Rat) * f i := fun i hi => by
    obtain ⟨p, hp⟩ := hp i hi
    rw [hp]
    rfl
  have hz := ker (fun i => Rat.num ((D : Rat) * f i)) (fun i hi => ?_) c hc
  · have h1 := hx c hc
    have hz' : Rat.num ((D : Rat) * f c) = 0 := hz
    rw [hz'] at h1
    have h2 : (D : Rat) * f c = 0 := by rw [← h1]; rfl
    rcases Rat.mul_eq_zero.mp h2 with h3 | h3
    · exact absurd h3 hDq
    · exact h3
  · refine Rat.intCast_inj.mp ?_
    rw [← sumQ_int]
    have e : sumQ n (fun c => ((A c i * Rat.num ((D : Rat) * f c) : Int) : Rat)) = sumQ n (fun c => (D : Rat) * ((A c i : Rat) * f c)) := sumQ_congr fun c hc => by
      rw [Rat.intCast_mul, hx c hc]
      grind
    rw [e, sumQ_mul, h i hi]
    show (D : Rat) * 0 = 0
    grind
theorem sol_one {rows : List (List Int)} {W : Nat} (ker : ∀ x : Nat → Int, (∀ i, i < rows.length → (sumN rows.length fun c => mxOf rows c i * x c) = 0) → ∀ c, c < rows.length → x c = 0) {x y : List (List Rat)} (hx : IsSol rows W x) (hy : IsSol rows W y) : x = y := by
  obtain ⟨x1, x2, x3⟩ := hx
  obtain ⟨y1, y2, y3⟩ := hy
  refine ext_getD [] (by rw [x1, y1]) fun l hl => ?_
  have hxl : (x.getD l []).length = W - rows.length := x2 _ (List.mem_of_getElem? (at_getD hl))
  have hyl : (y.getD l []).length = W - rows.length := y2 _ (List.mem_of_getElem? (at_getD (by omega)))
  refine ext_getD 0 (by rw [hxl, hyl]) fun c hc => ?_
  have hc : c < W - rows.length := by omega
  have := ker_rat ker (f := fun l => (x.getD l []).getD c 0 - (y.getD l []).getD c 0) (fun i hi => ?_) l (by omega)
  · have h2 : (x.getD l []).getD c 0 - (y.getD l []).getD c 0 = 0 := this
    grind
  · have e : sumQ rows.length (fun l => (mxOf rows l i : Rat) * ((x.getD l []).getD c 0 - (y.getD l []).getD c 0)) = sumQ rows.length (fun l => (mxOf rows l i : Rat) * (x.getD l []).getD c 0 + (-1) * ((mxOf rows l i : Rat) * (y.getD l []).getD c 0)) := sumQ_congr fun l _ => by grind
    rw [e, sumQ_add, sumQ_mul, x3 i c hi hc, y3 i c hi hc]
    grind
open Classical in
noncomputable def solR (rows : List (List Int)) (W : Nat) : List (List Rat) := if h : ∃ x, IsSol rows W x then h.choose else []
theorem solR_eq {rows : List (List Int)} {W : Nat} (ker : ∀ x : Nat → Int, (∀ i, i < rows.length → (sumN rows.length fun c => mxOf rows c i * x c) = 0) → ∀ c, c < rows.length → x c = 0) {x : List (List Rat)} (hx : IsSol rows W x) : solR rows W = x := by
  have h : ∃ x, IsSol rows W x := ⟨x, hx⟩
  unfold solR
  rw [dif_pos h]
  exact sol_one ker h.choose_spec hx
/-- between two steps -/
structure Mid (rows : List (List Int)) (W M k : Nat) (A : Mx) : Prop where
  piv0 : ∀ m, m ≤ k → piv A m ≠ 0
  sur : ∀ i, i < rows.length → ∃ i', i' < rows.length ∧ ∀ j, mxOf rows j i = A j i'
  small : ∀ j i, j < W → i < rows.length → (A j i).natAbs ≤ M
theorem mid0 {rows : List (List Int)} {W M : Nat} (s : Solv rows W M) : Mid rows W M 0 (mxOf rows) where
  piv0 := fun m hm => by
    have : m = 0 := by omega
    subst this
    exact fun z => nomatch (show (1 : Int) = 0 from z)
  sur := fun i hi => ⟨i, hi, fun _ => rfl⟩
  small := s.small
theorem mid_ker {rows : List (List Int)} {W M k : Nat} {A : Mx} (s : Solv rows W M) (m : Mid rows W M k A) : ∀ x : Nat → Int, (∀ i, i < rows.length → (sumN rows.length fun c => A c i * x c) = 0) → ∀ c, c < rows.length → x c = 0 := fun x hx => s.ker x fun i hi => by
  obtain ⟨i', hi', h⟩ := m.sur i hi
  rw [← hx i' hi']
  exact sumN_congr fun c _ => by rw [h c]
/-- a pivot is found, and the rows are cleared -/
theorem mid_step {rows : List (List Int)} {W M k : Nat} {A : Mx} (s : Solv rows W M) (m : Mid rows W M k A) (hk : k < rows.length) : ∃ B, Mid rows W M (k + 1) B ∧ pivM (matL rows.length W (el A k)) k = matL rows.length W (el B k) ∧ piv B k = piv A k ∧ clearM (matL rows.length W (el B k)) k (piv A k) = matL rows.length W (el B (k + 1)) := by
  obtain ⟨i, h1, h2, h3⟩ := pivot_there hk m.piv0 (mid_ker s m)
  have hle := s.le
  have hent : ∀ p, p < rows.length - k → pivAt (matL rows.length W (el A k)) k p = !decide (el A k k (k + p) = 0) := fun p hp => by
    unfold pivAt
    rw [matL_get (by omega) (by omega)]
  obtain ⟨p, hp⟩ : ∃ p, (List.range (rows.length - k)).find? (pivAt (matL rows.length W (el A k)) k) = some p := by
    cases q : (List.range (rows.length - k)).find? (pivAt (matL rows.length W (el A k)) k) with
    | some p => exact ⟨p, rfl⟩
    | none =>
      have := List.find?_eq_none.mp q (i - k) (List.mem_range.mpr (by omega))
      rw [hent _ (by omega), show k + (i - k) = i by omega, decide_eq_false h3] at this
      simp at this
  have hp1 : p < rows.length - k := List.mem_range.mp (List.mem_of_find?_eq_some hp)
  have hp2 : el A k k (k + p) ≠ 0 := by
    have := List.find?_some hp
    rw [hent p hp1] at this
    intro z
    rw [z] at this
    simp at this
  obtain ⟨r1, r2⟩ := el_rx (A := A) (p := k) (q := k + p) (k := k) (Nat.le_refl _) (by omega)
  have eB : matL rows.length W (el (rx A k (k + p)) k) = matL rows.length W (rx (el A k) k (k + p)) := matL_congr fun j i _ _ => r1 j i
  have exl : ∀ i, i < rows.length → exch k (k + p) i < rows.length := fun i hi => by
    unfold exch
    split
    · omega
    · split <;> omega
  have exx : ∀ i, exch k (k + p) (exch k (k + p) i) = i := fun i => by
    unfold exch
    split <;> (try split) <;> (try split) <;> omega
  have hpv : ∀ m', m' ≤ k + 1 → piv (rx A k (k + p)) m' ≠ 0 := fun m' hm => by
    by_cases e : m' = k + 1
    · subst e
      show el (rx A k (k + p)) k k k ≠ 0
      rw [r1, show exch k (k + p) k = k + p by unfold exch; rw [if_pos rfl]]
      exact hp2
    · rw [r2 m' (by omega)]
      exact m.piv0 m' (by omega)
  refine ⟨rx A k (k + p), ⟨hpv, fun i hi => ?_, fun j i hj hi => m.small j _ hj (exl i hi)⟩, ?_, r2 k (Nat.le_refl _), ?_⟩
  · obtain ⟨i', hi', h⟩ := m.sur i hi
    refine ⟨exch k (k + p) i', exl i' hi', fun j => ?_⟩
    rw [h j]
    show A j i' = A j (exch k (k + p) (exch k (k + p) i'))
    rw [exx]
  · unfold pivM
    rw [matL_len, hp]
    show swapM _ _ _ = _
    rw [swap_mat hk (by omega), eB]
  · rw [← r2 k (Nat.le_refl _)]
    exact clear_mat hk s.le fun m' hm => hpv m' (by omega)
theorem mid_abs {rows : List (List Int)} {W M k : Nat} {A : Mx} (s : Solv rows W M) (m : Mid rows W M k A) (hk : k ≤ rows.length) {j i : Nat} (hj : j < W) (hi : i < rows.length) : (el A k j i).natAbs < 2 ^ 4000 :=
  Nat.lt_of_le_of_lt (el_abs s.one hk s.le hj m.piv0 hi m.small) s.bits
theorem piv_abs {rows : List (List Int)} {W M k : Nat} {A : Mx} (s : Solv rows W M) (m : Mid rows W M k A) (hk : k ≤ rows.length) : (piv A k).natAbs < 2 ^ 4000 := by
  cases k with
  | zero => exact Nat.lt_of_lt_of_le (show (1 : Int).natAbs < 2 ^ 1 by decide) (Nat.pow_le_pow_right (by decide) (by decide))
  | succ k =>
    have hle := s.le
    have := mid_abs s m hk (j := k) (i := k) (by omega) (by omega)
    rw [el_succ, if_pos rfl] at this
    exact this
/-- the end -/
theorem mid_sol {rows : List (List Int)} {W M : Nat} {A : Mx} (s : Solv rows W M) (m : Mid rows W M rows.length A) : IsSol rows W ((List.range rows.length).map fun k => ((List.range (W - rows.length)).map fun c => Rat.divInt (el A rows.length (rows.length + c) k) (piv A rows.length))) := by
  obtain ⟨e1, e2⟩ := el_end (n := rows.length) m.piv0
  have hp := m.piv0 rows.length (Nat.le_refl _)
  have hpq : (piv A rows.length : Rat) ≠ 0 := fun z => hp (Rat.intCast_inj.mp (by rw [z]; rfl))
  refine ⟨by rw [List.length_map, List.length_range], fun r hr => ?_, fun i c hi hc => ?_⟩
  · obtain ⟨k, hk, rfl⟩ := List.mem_map.mp hr
    rw [List.length_map, List.length_range]
  · obtain ⟨i', hi', h⟩ := m.sur i hi
    have h2 := e2 (rows.length + c) i' hi'
    have e : sumQ rows.length (fun l => (mxOf rows l i : Rat) * (((List.range rows.length).map fun k => ((List.range (W - rows.length)).map fun c => Rat.divInt (el A rows.length (rows.length + c) k) (piv A rows.length))).getD l []).getD c 0) = sumQ rows.length (fun l => ((piv A rows.length : Rat))⁻¹ * ((el A rows.length (rows.length + c) l * A l i' : Int) : Rat)) := sumQ_congr fun l hl => by
      rw [getD_range hl, getD_range hc, h l, Rat.divInt_eq_div, Rat.intCast_mul, Rat.div_def]
      grind
    rw [e, sumQ_mul, sumQ_int, ← h2, h (rows.length + c), Rat.intCast_mul]
    grind
theorem mid_end {rows : List (List Int)} {W M : Nat} {A : Mx} (s : Solv rows W M) (m : Mid rows W M rows.length A) :
    (∀ k, k < rows.length → el A rows.length k k = piv A rows.length) ∧ ((List.range rows.length).map fun k => ((List.range (W - rows.length)).map fun c => Rat.divInt (el A rows.length (rows.length + c) k) (piv A rows.length))) = solR rows W := by
  obtain ⟨e1, e2⟩ := el_end (n := rows.length) m.piv0
  exact ⟨fun k hk => by rw [e1 k k hk hk, if_pos rfl], (solR_eq s.ker (mid_sol s m)).symm⟩
theorem mid_all {rows : List (List Int)} {W M : Nat} (s : Solv rows W M) : ∀ k, k ≤ rows.length → ∃ A, Mid rows W M k A
  | 0, _ => ⟨_, mid0 s⟩
  | k + 1, hk => by
    obtain ⟨A, hA⟩ := mid_all s k (by omega)
    obtain ⟨B, hB, _⟩ := mid_step s hA (by omega)
    exact ⟨B, hB⟩
theorem solR_sol {rows : List (List Int)} {W M : Nat} (s : Solv rows W M) : IsSol rows W (solR rows W) := by
  obtain ⟨A, hA⟩ := mid_all s _ (Nat.le_refl _)
  rw [← (mid_end s hA).2]
  exact mid_sol s hA
/-- the denominators all part one number -/
theorem solR_over {rows : List (List Int)} {W M : Nat} (s : Solv rows W M) : ∃ D : Int, D ≠ 0 ∧ D.natAbs < 2 ^ 4000 ∧ ∀ k c, k < rows.length → c < W - rows.length → ∃ p : Int, ((solR rows W).getD k []).getD c 0 = Rat.divInt p D ∧ p.natAbs ≤ rows.length ^ rows.length * M ^ rows.length := by
  obtain ⟨A, hA⟩ := mid_all s _ (Nat.le_refl _)
  refine ⟨piv A rows.length, hA.piv0 _ (Nat.le_refl _), piv_abs s hA (Nat.le_refl _), fun k c hk hc => ?_⟩
  rw [← (mid_end s hA).2, getD_range hk, getD_range hc]
  exact ⟨_, rfl, el_abs s.one (Nat.le_refl _) s.le (by omega) hA.piv0 hk hA.small⟩
end El

set_option Elab.async false
set_option linter.all false
set_option maxRecDepth 100000
set_option maxHeartbeats 4000000
namespace El
open PySem PySem.Spec L2
variable [LawTabs]
section
variable {K : PySem.W.Frag} {σ : St} {F H F' H' F0 H0 : Hp} {ta tb tc td te tl : TE} {α β γ : Type} {R : Rp α} {S : Rp β} {T : Rp γ} {x : α} {y : β} {xs : List α} {ys : List β} {D : Ends} {E : XK} {i j : Int} {C : Addr} {l : Addr} {vs : List V}
/-- a list that may change, handed back -/
theorem x_retM {n : Nat} {Q : VK} (g : Gr M0 F0 H0 F H) (hv : σ[n]? = some (some (.ref l))) (hl : H l = some (.lst vs)) (f0 : F0 l = none) (h0 : H0 l = none) (p : Paired (R F) vs xs) (k : ∀ F' , Gr M0 F0 H0 F' H → rLst R F' (.ref l) xs → D.rt (.ref l) H) (m : Mn R := by infer_instance) : tRet (tVar n) D σ H :=
  ⟨.ref l, hv, by
    by_cases fl : F l = none
    · exact k _ (g.frz hl f0 (.inl h0)) ⟨l, vs, rfl, upd_same, Paired.up (Ex.new fl) p⟩
    · cases q : F l with
      | none => exact absurd q fl
      | some o => exact k F g ⟨l, vs, rfl, by rw [q, ← g.fh _ _ q, hl], p⟩⟩
theorem ev_lcZm {a b : Nat} {ws : List Nat} (f : α × β → γ) (ha : Ev (rLst R) ta σ F H xs) (hb : Ev (rLst S) tb σ F H ys) (hz : xs.length ≤ 1000000) (hw : ∀ v w, wipe (((wipe σ ws).set a (some v)).set b (some w)) ws = wipe σ ws)
    (he : ∀ (n : Nat) p v w F1 H1, (xs.zip ys)[n]? = some p → Gr M0 F H F1 H1 → R F1 v p.1 → S F1 w p.2 → Ev T te (((wipe σ ws).set a (some v)).set b (some w)) F1 H1 (f p)) (m : Mn R := by infer_instance) (m2 : Mn S := by infer_instance) (m' : Mn T := by infer_instance) :
    Ev (rLst T) (tLc (iZip K (tCons ta (tCons tb tNil))) (gTup K 2 (gCons (gName a) (gCons (gName b) gNil))) tYes te ws) σ F H ((xs.zip ys).map f) :=
  ev_lcZ ha hb (by rw [List.length_map, List.length_zip]) (by rw [List.length_map, List.length_zip]; omega) hw fun n x y z v w F1 H1 hx hy hz g r1 r2 => by
    have hp : (xs.zip ys)[n]? = some (x, y) := List.getElem?_zip_eq_some.mpr ⟨hx, hy⟩
    rw [List.getElem?_map, hp] at hz
    cases hz
    exact he n (x, y) v w F1 H1 hp g r1 r2
theorem ev_mulZ {a b : Nat} (ha : Ev rInt ta σ F H i) (hb : Ev rInt tb σ F H j) (h1 : i.natAbs < 2 ^ a) (h2 : j.natAbs < 2 ^ b) (ha0 : 0 < a) (hb0 : 0 < b) (hab : a + b ≤ 1000000) : Ev rInt (tOp (rI CMulW fun i j => .int (i * j)) ta tb) σ F H (i * j) := ev_mulW ha hb (wide_mul h1 h2 ha0 hb0 hab)
end
theorem natAbs_mul_lt {i j : Int} {a b : Nat} (h1 : i.natAbs < 2 ^ a) (h2 : j.natAbs < 2 ^ b) : (i * j).natAbs < 2 ^ (a + b) := wide_lt h1 h2
/-! sums of shares -/
def addQ (xs : List Rat) : Rat := xs.foldl (· + ·) 0
theorem rat_add (a b : Rat) : a + b = Rat.divInt (a.num * b.den + b.num * a.den) ((a.den : Int) * b.den) := by
  have h1 := Rat.num_divInt_den a
  have h2 := Rat.num_divInt_den b
  have hd : ((a.den : Int)) ≠ 0 := by have := a.den_nz; omega
  have hd2 : ((b.den : Int)) ≠ 0 := by have := b.den_nz; omega
  rw [← Rat.divInt_add_divInt _ _ hd hd2, h1, h2]
/-- bounded shares -/
def ShB (r : Rat) (B : Nat) : Prop := r.num.natAbs < 2 ^ B ∧ r.den < 2 ^ B
theorem ShB.le {r : Rat} {A B : Nat} (h : ShB r A) (l : A ≤ B) : ShB r B := ⟨Nat.lt_of_lt_of_le h.1 (Nat.pow_le_pow_right (by decide) l), Nat.lt_of_lt_of_le h.2 (Nat.pow_le_pow_right (by decide) l)⟩
theorem shB_div {n d : Int} {B : Nat} (hn : n.natAbs < 2 ^ B) (hd : d.natAbs < 2 ^ B) (h0 : d ≠ 0) : ShB (Rat.divInt n d) B := by
  have hg : Int.gcd d n ≠ 0 := fun z => h0 (Int.gcd_eq_zero_iff.mp z).1
  constructor
  · rw [Rat.num_divInt]
    refine Nat.lt_of_le_of_lt ?_ hn
    have h2 : (Int.gcd d n : Int) ∣ n := Int.gcd_dvd_right ..
    obtain ⟨k, hk⟩ := h2
    have hs : d.sign.natAbs = 1 := Int.natAbs_sign_of_ne_zero h0
    generalize Int.gcd d n = g at *
    subst hk
    rw [show d.sign * ((g : Int) * k) = g * (d.sign * k) by grind, Int.mul_ediv_cancel_left _ (by omega), Int.natAbs_mul, hs, Nat.one_mul, Int.natAbs_mul, Int.natAbs_natCast]
    exact Nat.le_mul_of_pos_left _ (by omega)
  · rw [Rat.den_divInt, if_neg h0]
    exact Nat.lt_of_le_of_lt (Nat.div_le_self _ _) hd
/-- shares over one number -/
def OverD (D : Int) (B : Nat) (xs : List Rat) : Prop := D ≠ 0 ∧ ∀ x ∈ xs, ∃ p : Int, x = Rat.divInt p D ∧ p.natAbs ≤ B
theorem over_sum {D : Int} {B : Nat} : ∀ {xs : List Rat}, OverD D B xs → ∀ {s : Int}, ∃ q : Int, xs.foldl (· + ·) (Rat.divInt s D) = Rat.divInt q D ∧ q.natAbs ≤ s.natAbs + xs.length * B
  | [], _, s => ⟨s, rfl, by omega⟩
  | x :: xs, h, s => by
    obtain ⟨hD, hx⟩ := h
    obtain ⟨p, rfl, hp⟩ := hx x List.mem_cons_self
    have e : Rat.divInt s D + Rat.divInt p D = Rat.divInt (s + p) D := by
      rw [Rat.divInt_eq_div, Rat.divInt_eq_div, Rat.divInt_eq_div, Rat.intCast_add, Rat.div_def, Rat.div_def, Rat.div_def]
      grind
    obtain ⟨q, h1, h2⟩ := over_sum (xs := xs) ⟨hD, fun y hy => hx y (List.mem_cons_of_mem _ hy)⟩ (s := s + p)
    refine ⟨q, by rw [List.foldl_cons, e, h1], ?_⟩
    rw [List.length_cons, Nat.succ_mul]
    omega
theorem zero_div (D : Int) : Rat.divInt 0 D = 0 := by rw [Rat.divInt_eq_div, Rat.div_def]; show ((0 : Int) : Rat) * _ = 0; exact Rat.zero_mul _
theorem over_take {D : Int} {B : Nat} {xs : List Rat} (h : OverD D B xs) (n : Nat) : ∃ q : Int, addQ (xs.take n) = Rat.divInt q D ∧ q.natAbs ≤ xs.length * B := by
  obtain ⟨q, h1, h2⟩ := over_sum (xs := xs.take n) ⟨h.1, fun x hx => h.2 x (List.mem_of_mem_take hx)⟩ (s := 0)
  refine ⟨q, by unfold addQ; rw [← h1, zero_div], ?_⟩
  have : (xs.take n).length * B ≤ xs.length * B := Nat.mul_le_mul_right _ (List.length_take_le' ..)
  have h3 : (0 : Int).natAbs = 0 := rfl
  omega
def SumOk (xs : List Rat) : Prop := ∃ (D : Int) (B : Nat), OverD D B xs ∧ D.natAbs < 2 ^ 4000 ∧ xs.length * B < 2 ^ 4000 ∧ xs.length ≤ 100000
theorem sumOk_take {xs : List Rat} (h : SumOk xs) (n : Nat) : ShB (addQ (xs.take n)) 4000 := by
  obtain ⟨D, B, h1, h2, h3, _⟩ := h
  obtain ⟨q, e, hq⟩ := over_take h1 n
  rw [e]
  exact shB_div (by omega) h2 h1.1
theorem sumOk_at {xs : List Rat} (h : SumOk xs) {x : Rat} (hx : x ∈ xs) : ShB x 4000 := by
  obtain ⟨D, B, h1, h2, h3, _⟩ := h
  obtain ⟨p, rfl, hp⟩ := h1.2 x hx
  have : 1 ≤ xs.length := by cases xs with
    | nil => cases hx
    | cons _ _ => simp
  have hB : B ≤ xs.length * B := Nat.le_mul_of_pos_left _ (by omega)
  exact shB_div (by omega) h2 h1.1
theorem addQ_snoc {xs : List Rat} {n : Nat} {x : Rat} (h : xs[n]? = some x) : addQ (xs.take (n + 1)) = addQ (xs.take n) + x := by
  unfold addQ
  rw [List.take_add_one, h, List.foldl_append]
  rfl
end El
namespace El
open PySem PySem.Spec L2
variable [LawTabs]
/-! ### a comprehension within a comprehension -/
theorem relabel_look {sc : Scope} {env : Env} {y : Str} (h : sc.names.lookup y = some .cell ∨ sc.names.lookup y = some .free) : (relabel sc env).names.lookup y = some .cell ∨ (relabel sc env).names.lookup y = some .free := by
  unfold relabel
  show List.lookup y (List.map _ sc.names) = _ ∨ List.lookup y (List.map _ sc.names) = _
  revert h
  generalize sc.names = names
  induction names with
  | nil => intro h; exact h
  | cons p names ih =>
    obtain ⟨n, k⟩ := p
    intro h
    by_cases e : (y == n) = true
    · have hk : k = .cell ∨ k = .free := by
        rw [List.lookup_cons, e] at h
        rcases h with h | h
        · exact .inl (Option.some.inj h)
        · exact .inr (Option.some.inj h)
      rw [List.map_cons]
      rcases hk with rfl | rfl
      · left
        by_cases c : (NameKind.cell == NameKind.free && env.scope.kind == .function && env.kindOf n == some .cell) = true
        · dsimp only
          rw [if_pos c, List.lookup_cons, e]
        · dsimp only
          rw [if_neg c, List.lookup_cons, e]
      · by_cases c : (NameKind.free == NameKind.free && env.scope.kind == .function && env.kindOf n == some .cell) = true
        · left
          dsimp only
          rw [if_pos c, List.lookup_cons, e]
        · right
          dsimp only
          rw [if_neg c, List.lookup_cons, e]
    · have e' : (y == n) = false := by simpa using e
      rw [List.lookup_cons, e'] at h
      have := ih h
      rw [List.map_cons]
      by_cases c : (k == NameKind.free && env.scope.kind == .function && env.kindOf n == some .cell) = true
      · dsimp only
        rw [if_pos c, List.lookup_cons, e']
        exact this
      · dsimp only
        rw [if_neg c, List.lookup_cons, e']
        exact this
theorem blk_in {N : List Str} {sc scope : Scope} {own : List (Str × Nat)} {cl : List (Str × Addr)} {C : Addr} {env : Env} (h : BlkOk N sc scope own) : BlkOk N (compEnvC sc cl C env).scope scope own :=
  ⟨h.kind, h.uniq, h.ix, fun y hy e => relabel_look (h.free y hy e), h.own⟩
end El

set_option Elab.async false
set_option linter.all false
set_option maxRecDepth 100000
set_option maxHeartbeats 4000000
namespace El
open PySem PySem.Spec PyProof.Rows L2 RZ
variable [LawTabs]
/-! ### zip of a list and a tuple, either way about (t: a tuple) -/
def ItAt (t : Bool) (h : Heap) (i l : Addr) (n : Nat) : Prop := match t with
  | true => h.IsTupleIter i l n
  | false => h.IsListIter i l n
def SqAt (t : Bool) (h : Heap) (l : Addr) (xs : Array Value) : Prop := match t with
  | true => h.IsTuple l xs
  | false => h.IsList l xs
section
variable {prog : Program} {w : World} {A : Around} {E : Value → Shared → Prop} {s : Shared} {t t1 t2 : Bool} {h h' : Heap} {i l b : Addr} {n : Nat} {xs : Array Value}
theorem ItAt.stay (x : ItAt t h i l n) (k : ∀ o, h.get? i = some o → h'.get? i = some o) : ItAt t h' i l n := by
  cases t <;> exact Exists.elim x fun o ho => ⟨o, k o ho.1, ho.2⟩
theorem SqAt.stay (x : SqAt t h l xs) (k : ∀ o, h.get? l = some o → h'.get? l = some o) : SqAt t h' l xs := by
  cases t <;> exact Exists.elim x fun o ho => ⟨o, k o ho.1, ho.2⟩
theorem ItAt.eb (x : ItAt t h i l n) (e : Heap.ExtBut b h h') (ne : i ≠ b) : ItAt t h' i l n := x.stay fun o ho => e i o ne ho
theorem SqAt.eb (x : SqAt t h l xs) (e : Heap.ExtBut b h h') (ne : l ≠ b) : SqAt t h' l xs := x.stay fun o ho => e l o ne ho
theorem ItAt.lt (x : ItAt t h i l n) : i < h.objs.size := by
  cases t <;> exact Exists.elim x fun o ho => Heap.lt_size ho.1
theorem SqAt.lt (x : SqAt t h l xs) : l < h.objs.size := by
  cases t <;> exact Exists.elim x fun o ho => Heap.lt_size ho.1
theorem next_item {x : Value} {Q : Value → Shared → Prop} (hi : ItAt t s.heap i l n) (hl : SqAt t s.heap l xs) (hx : xs[n]? = some x) (q : ∀ h', ItAt t h' i l (n + 1) → Heap.SameBut i s.heap h' → Q x { s with heap := h' }) :
    wpAny (model prog w) A (Builtin.SmallTypes.nextOf (.ref i)) Q E s := by
  cases t with
  | true => exact nextOf_tuple_item hi hl hx q
  | false => exact wpAny_nextOf_list_item hi hl hx q
theorem next_end {Q : Value → Shared → Prop} (hh : A.handled = none) (hi : ItAt t s.heap i l n) (hl : SqAt t s.heap l xs) (hx : xs[n]? = none)
    (q : ∀ h' e, Heap.ExtBut i s.heap h' → (∃ o, h'.get? e = some o ∧ o.cls = .type "StopIteration") → E (.ref e) { s with heap := h' }) : wpAny (model prog w) A (Builtin.SmallTypes.nextOf (.ref i)) Q E s := by
  cases t with
  | true => exact nextOf_tuple_end hh hi hl hx q
  | false => exact wpAny_nextOf_list_end hh hi hl hx q
theorem zx_item {z TI TO i1 i2 l1 l2 : Addr} {k1 k2 : Nat} {xs ys : Array Value} {x y a b : Value} {Q : Value → Shared → Prop} (D : ZipApart z TI TO i1 i2 l1 l2)
    (hz : IsZip s.heap z TI TO .none) (hTI : IsPair s.heap TI (.ref i1) (.ref i2)) (hTO : IsPair s.heap TO a b) (h1 : ItAt t1 s.heap i1 l1 k1) (h2 : ItAt t2 s.heap i2 l2 k2) (hl1 : SqAt t1 s.heap l1 xs) (hl2 : SqAt t2 s.heap l2 ys) (hx : xs[k1]? = some x) (hy : ys[k2]? = some y)
    (hQ : ∀ h', IsZip h' z TI TO (rawInt s.heap.objs.size) → IsPair h' TO x y → ItAt t1 h' i1 l1 (k1 + 1) → ItAt t2 h' i2 l2 (k2 + 1) → IsPair h' s.heap.objs.size x y → h'.objs.size = s.heap.objs.size + 1 →
      (∀ c o, c ≠ z → c ≠ TO → c ≠ i1 → c ≠ i2 → s.heap.get? c = some o → h'.get? c = some o) → Q (.ref s.heap.objs.size) { s with heap := h' }) :
    wpAny (model prog w) A (Builtin.«zip.__next__» ⟨[.ref z], []⟩) (fun fin s' => ∃ v, fin = .done (.ret v) ∧ Q v s') E s := by
  show wpAny _ _ (field (.ref z) 2 >>= _) _ _ _; refine wpAny_bind (wpAny_field hz rfl (x := .bool false) rfl ?_)
  show wpAny _ _ (field (.ref z) 3 >>= _) _ _ _; refine wpAny_bind (wpAny_field hz rfl (x := .ref TI) rfl ?_); refine wpAny_bind (wpAny_seqItems hTI rfl ?_)
  show wpAny _ _ (Builtin.SmallTypes.ownedTupleIsFree (.ref z) >>= _) _ _ _; unfold Builtin.SmallTypes.ownedTupleIsFree
  refine wpAny_bind (wpAny_bind (wpAny_field hz rfl (x := .none) rfl (wpAny_pure ?_))); simp only [if_true]
  refine wpAny_bind (wpAny_rule (wpAny_bind (wpAny_field hz rfl (x := .ref TO) rfl ?_)))
  refine wpAny_bind (wpAny_setField_rec hz (by simp) fun ha za sa => ?_); have za' : IsZip ha z TI TO .ellipsis := za
  refine wpAny_bind ?_; simp only [List.zipIdx_cons, List.zipIdx_nil, List.forIn_cons, List.forIn_nil]
  have ea := sa.extBut
  refine wpAny_bind (wpAny_bind (wpAny_onRaise (?_ : wpAny _ _ (Builtin.SmallTypes.nextOf (.ref i1) >>= _) _ _ _)))
  refine wpAny_bind (next_item (h1.eb ea D.i1z) (hl1.eb ea D.l1z) hx fun hb ib sb => wpAny_pure ?_); have eb := sb.extBut
  have ob : IsPair hb TO a b := eb TO _ D.TOi1 (ea TO _ D.TOz hTO)
  refine wpAny_bind (wpAny_seqItems ob rfl (wpAny_bind (wpAny_updateSeq_pair ob fun hc oc sc => ?_))); have oc' : IsPair hc TO x b := oc; have ec := sc.extBut
  refine wpAny_bind (wpAny_letGo (wpAny_pure (wpAny_bind (wpAny_bind (wpAny_onRaise (?_ : wpAny _ _ (Builtin.SmallTypes.nextOf (.ref i2) >>= _) _ _ _))))))
  refine wpAny_bind (next_item (((h2.eb ea D.i2z).eb eb D.i12.symm).eb ec D.TOi2.symm) (((hl2.eb ea D.l2z).eb eb D.l2i1).eb ec D.l2TO) hy fun hd id_ sd => wpAny_pure ?_); have ed := sd.extBut
  have od : IsPair hd TO x b := ed TO _ D.TOi2 oc'
  refine wpAny_bind (wpAny_seqItems od rfl (wpAny_bind (wpAny_updateSeq_pair od fun he oe se => ?_))); have oe' : IsPair he TO x y := oe; have ee := se.extBut
  refine wpAny_bind (wpAny_letGo (wpAny_pure (wpAny_pure (wpAny_bind (wpAny_seqItems oe' rfl (wpAny_bind (wpAny_newTuple ?_)))))))
  have size : he.objs.size = s.heap.objs.size := by rw [se.1, sd.1, sc.1, sb.1, sa.1]
  have zee : IsZip he z TI TO .ellipsis := ee z _ D.TOz.symm (ed z _ D.i2z.symm (ec z _ D.TOz.symm (eb z _ D.i1z.symm za')))
  have old : ∀ c o, c ≠ z → c ≠ TO → c ≠ i1 → c ≠ i2 → s.heap.get? c = some o → he.get? c = some o := fun c o c1 c2 c3 c4 q => ee c o c2 (ed c o c4 (ec c o c2 (eb c o c3 (ea c o c1 q))))
  have i1e : ItAt t1 he i1 l1 (k1 + 1) := ((ib.eb ec D.TOi1.symm).eb ed D.i12).eb ee D.TOi1.symm
  have i2e : ItAt t2 he i2 l2 (k2 + 1) := id_.eb ee D.TOi2.symm
  have ltz : z < he.objs.size := Heap.lt_size zee
  show wpAny _ _ (Builtin.SmallTypes.ownedTupleHandOut (.ref z) (.ref he.objs.size) >>= _) _ _ _; unfold Builtin.SmallTypes.ownedTupleHandOut
  have zf : IsZip (he.push { cls := .type "tuple", data := .seq #[x, y] }) z TI TO .ellipsis := Heap.get?_push_of_some _ zee
  refine wpAny_bind (wpAny_bind (wpAny_setField_rec zf (by simp) fun hg zg sg => ?_)); have zg' : IsZip hg z TI TO (rawInt he.objs.size) := zg
  refine wpAny_setField_rec zg' (by simp) fun hk zk sk => ?_; have zk' : IsZip hk z TI TO (rawInt he.objs.size) := zk
  have up : ∀ c o, c ≠ z → he.get? c = some o → hk.get? c = some o := fun c o c1 q => sk.extBut c o c1 (sg.extBut c o c1 (Heap.get?_push_of_some _ q))
  have pk : IsPair hk he.objs.size x y := sk.extBut _ _ (Nat.ne_of_gt ltz) (sg.extBut _ _ (Nat.ne_of_gt ltz) (Heap.get?_push_size _ rfl))
  have sk8 : hk.objs.size = he.objs.size + 1 := by rw [sk.1, sg.1, Heap.size_push]
  rw [size] at zk' pk sk8
  refine wpAny_pure ⟨.ref he.objs.size, rfl, ?_⟩; rw [size]
  exact hQ hk zk' (up TO _ D.TOz oe') (i1e.stay fun o q => up i1 o D.i1z q) (i2e.stay fun o q => up i2 o D.i2z q) pk sk8 fun c o c1 c2 c3 c4 q => up c o c1 (old c o c1 c2 c3 c4 q)
theorem zx_end {z TI TO i1 i2 l1 l2 : Addr} {k1 k2 : Nat} {xs ys : Array Value} {a b : Value} {Q : Fin → Shared → Prop} (hh : A.handled = none) (D : ZipApart z TI TO i1 i2 l1 l2)
    (hz : IsZip s.heap z TI TO .none) (hTI : IsPair s.heap TI (.ref i1) (.ref i2)) (hTO : IsPair s.heap TO a b) (h1 : ItAt t1 s.heap i1 l1 k1) (h2 : ItAt t2 s.heap i2 l2 k2) (hl1 : SqAt t1 s.heap l1 xs) (hl2 : SqAt t2 s.heap l2 ys) (hend : xs[k1]? = none ∨ ys[k2]? = none)
    (hE : ∀ h' e, (∀ c o, c ≠ z → c ≠ TO → c ≠ i1 → c ≠ i2 → s.heap.get? c = some o → h'.get? c = some o) → (∃ o, h'.get? e = some o ∧ o.cls = .type "StopIteration") → E (.ref e) { s with heap := h' }) :
    wpAny (model prog w) A (Builtin.«zip.__next__» ⟨[.ref z], []⟩) Q E s := by
  show wpAny _ _ (field (.ref z) 2 >>= _) _ _ _; refine wpAny_bind (wpAny_field hz rfl (x := .bool false) rfl ?_)
  show wpAny _ _ (field (.ref z) 3 >>= _) _ _ _; refine wpAny_bind (wpAny_field hz rfl (x := .ref TI) rfl ?_); refine wpAny_bind (wpAny_seqItems hTI rfl ?_)
  show wpAny _ _ (Builtin.SmallTypes.ownedTupleIsFree (.ref z) >>= _) _ _ _; unfold Builtin.SmallTypes.ownedTupleIsFree
  refine wpAny_bind (wpAny_bind (wpAny_field hz rfl (x := .none) rfl (wpAny_pure ?_))); simp only [if_true]
  refine wpAny_bind (wpAny_rule (wpAny_bind (wpAny_field hz rfl (x := .ref TO) rfl ?_)))
  refine wpAny_bind (wpAny_setField_rec hz (by simp) fun ha za sa => ?_); have za' : IsZip ha z TI TO .ellipsis := za
  refine wpAny_bind ?_; simp only [List.zipIdx_cons, List.zipIdx_nil, List.forIn_cons, List.forIn_nil]
  have ea := sa.extBut
  refine wpAny_bind (wpAny_bind (wpAny_onRaise (?_ : wpAny _ _ (Builtin.SmallTypes.nextOf (.ref i1) >>= _) _ _ _)))
  have out : ∀ (hq hr : Heap) (e : Addr), (∃ o, hq.get? e = some o ∧ o.cls = .type "StopIteration") → IsZip hq z TI TO .ellipsis → Heap.SameBut z hq hr → ∃ o, hr.get? e = some o ∧ o.cls = .type "StopIteration" := fun hq hr e ⟨o, ho, hc⟩ zq sr =>
    ⟨o, sr.extBut _ _ (fun q => by subst q; rw [zq] at ho; cases ho; simp at hc) ho, hc⟩
  cases hx : xs[k1]? with
  | none =>
    refine wpAny_bind (next_end hh (h1.eb ea D.i1z) (hl1.eb ea D.l1z) hx fun hb e eb st => ?_)
    have zb : IsZip hb z TI TO .ellipsis := eb z _ D.i1z.symm za'
    exact wpAny_setField_rec zb (by simp) fun hc _ sc => hE hc e (fun c o c1 _ c3 _ q => sc.extBut c o c1 (eb c o c3 (ea c o c1 q))) (out hb hc e st zb sc)
  | some x =>
    have hy : ys[k2]? = none := hend.resolve_left fun q => by rw [hx] at q; cases q
    refine wpAny_bind (next_item (h1.eb ea D.i1z) (hl1.eb ea D.l1z) hx fun hb ib sb => wpAny_pure ?_); have eb := sb.extBut
    have ob : IsPair hb TO a b := eb TO _ D.TOi1 (ea TO _ D.TOz hTO)
    refine wpAny_bind (wpAny_seqItems ob rfl (wpAny_bind (wpAny_updateSeq_pair ob fun hc oc sc => ?_))); have ec := sc.extBut
    refine wpAny_bind (wpAny_letGo (wpAny_pure (wpAny_bind (wpAny_bind (wpAny_onRaise (?_ : wpAny _ _ (Builtin.SmallTypes.nextOf (.ref i2) >>= _) _ _ _))))))
    refine wpAny_bind (next_end hh (((h2.eb ea D.i2z).eb eb D.i12.symm).eb ec D.TOi2.symm) (((hl2.eb ea D.l2z).eb eb D.l2i1).eb ec D.l2TO) hy fun hd e ed st => ?_)
    have zd : IsZip hd z TI TO .ellipsis := ed z _ D.i2z.symm (ec z _ D.TOz.symm (eb z _ D.i1z.symm za'))
    exact wpAny_setField_rec zd (by simp) fun he _ se => hE he e (fun c o c1 c2 c3 c4 q => se.extBut c o c1 (ed c o c4 (ec c o c2 (eb c o c3 (ea c o c1 q))))) (out hd he e st zd se)
theorem zx_next {z TI TO i1 i2 l1 l2 : Addr} {k1 k2 : Nat} {xs ys : Array Value} {x y a b : Value} {Q : Option Value → Shared → Prop} (D : ZipApart z TI TO i1 i2 l1 l2)
    (hz : IsZip s.heap z TI TO .none) (hTI : IsPair s.heap TI (.ref i1) (.ref i2)) (hTO : IsPair s.heap TO a b) (h1 : ItAt t1 s.heap i1 l1 k1) (h2 : ItAt t2 s.heap i2 l2 k2) (hl1 : SqAt t1 s.heap l1 xs) (hl2 : SqAt t2 s.heap l2 ys) (hx : xs[k1]? = some x) (hy : ys[k2]? = some y)
    (hQ : ∀ h', IsZip h' z TI TO (rawInt s.heap.objs.size) → IsPair h' TO x y → ItAt t1 h' i1 l1 (k1 + 1) → ItAt t2 h' i2 l2 (k2 + 1) → IsPair h' s.heap.objs.size x y → h'.objs.size = s.heap.objs.size + 1 →
      (∀ c o, c ≠ z → c ≠ TO → c ≠ i1 → c ≠ i2 → s.heap.get? c = some o → h'.get? c = some o) → Q (some (.ref s.heap.objs.size)) { s with heap := h' }) : wpAny (model prog w) A (pyNext (.ref z)) Q E s := by
  have ty : s.TypeIs (.ref z) "zip" := ⟨_, hz, rfl⟩
  unfold pyNext
  refine wpAny_bind (wpAny_attempt (wpAny_callSpecial?_slot (name := Str.ofString "__next__") ty F.slot_zip_next ?_))
  exact wpAny_call_entry F.slot_zip_next ty F.entry_zip_next (zx_item D hz hTI hTO h1 h2 hl1 hl2 hx hy fun h' c1 c2 c3 c4 c5 c6 c7 => wpAny_pure (hQ h' c1 c2 c3 c4 c5 c6 c7)) (F.args_zip_next_1 _)
theorem zx_stop {z TI TO i1 i2 l1 l2 : Addr} {k1 k2 : Nat} {xs ys : Array Value} {a b : Value} {Q : Option Value → Shared → Prop} (hh : A.handled = none) (D : ZipApart z TI TO i1 i2 l1 l2)
    (hz : IsZip s.heap z TI TO .none) (hTI : IsPair s.heap TI (.ref i1) (.ref i2)) (hTO : IsPair s.heap TO a b) (h1 : ItAt t1 s.heap i1 l1 k1) (h2 : ItAt t2 s.heap i2 l2 k2) (hl1 : SqAt t1 s.heap l1 xs) (hl2 : SqAt t2 s.heap l2 ys) (hend : xs[k1]? = none ∨ ys[k2]? = none)
    (hQ : ∀ h', (∀ c o, c ≠ z → c ≠ TO → c ≠ i1 → c ≠ i2 → s.heap.get? c = some o → h'.get? c = some o) → Q none { s with heap := h' }) : wpAny (model prog w) A (pyNext (.ref z)) Q E s := by
  have ty : s.TypeIs (.ref z) "zip" := ⟨_, hz, rfl⟩
  unfold pyNext
  refine wpAny_bind (wpAny_attempt (wpAny_callSpecial?_slot (name := Str.ofString "__next__") ty F.slot_zip_next ?_))
  refine wpAny_call_entry F.slot_zip_next ty F.entry_zip_next (zx_end hh D hz hTI hTO h1 h2 hl1 hl2 hend fun h' e hk st => ?_) (F.args_zip_next_1 _)
  obtain ⟨o, ho, hc⟩ := st
  exact wpAny_bind (wpAny_isInstance (T := "StopIteration") (b := true) ⟨o, ho, hc⟩ isSubtype_stop (wpAny_pure (hQ _ hk)))
def itO (t : Bool) (l : Addr) : Obj := { cls := .type (match t with | true => "tuple_iterator" | false => "list_iterator"), data := .fields #[.ref l, .int 0 0] }
theorem zx_iter {Q : Value → Shared → Prop} {hp : Heap} {g d tk os} (hl : SqAt t hp l xs) (q : Q (.ref hp.objs.size) ⟨hp.push (itO t l), g, d, tk, os⟩) : wpAny (model prog w) A (pyIter (.ref l)) Q E ⟨hp, g, d, tk, os⟩ := by
  cases t with
  | true => exact wpAny_pyIter_tuple (s := ⟨hp, g, d, tk, os⟩) hl q
  | false => exact wpAny_pyIter_list (s := ⟨hp, g, d, tk, os⟩) hl q
abbrev zx1 (t1 : Bool) (h : Heap) (l1 : Addr) : Heap := h.push (itO t1 l1)
abbrev zx2 (t1 t2 : Bool) (h : Heap) (l1 l2 : Addr) : Heap := (zx1 t1 h l1).push (itO t2 l2)
abbrev zx3 (t1 t2 : Bool) (h : Heap) (l1 l2 : Addr) : Heap := (zx2 t1 t2 h l1 l2).push { cls := .type "tuple", data := .seq #[.ref h.objs.size, .ref (zx1 t1 h l1).objs.size] }
abbrev zx4 (t1 t2 : Bool) (h : Heap) (l1 l2 : Addr) : Heap := (zx3 t1 t2 h l1 l2).push { cls := .type "tuple", data := .seq #[.none, .none] }
abbrev zx5 (t1 t2 : Bool) (h : Heap) (l1 l2 : Addr) : Heap := (zx4 t1 t2 h l1 l2).push { cls := .type "zip", data := .fields #[.none, .bool false, .bool false, .ref (zx2 t1 t2 h l1 l2).objs.size, .ref (zx3 t1 t2 h l1 l2).objs.size] }
end
theorem zx_new (t1 t2 : Bool) (l1 l2 : Addr) (xs ys : Array Value) : Meets (Builtin.«zip.__new__» ⟨[.type "zip", .ref l1, .ref l2], []⟩) (fun _ R s => SqAt t1 s.heap l1 xs ∧ SqAt t2 s.heap l2 ys ∧
      R (.ok (.ret (.ref (zx4 t1 t2 s.heap l1 l2).objs.size))) { s with heap := zx5 t1 t2 s.heap l1 l2 }) :=
  .of_wp fun prog w A R s h => by
    obtain ⟨hp, g, d, tk, os⟩ := s
    obtain ⟨ha, hb, h⟩ := h
    have hsub := sub_zip
    have hb2 : SqAt t2 (hp.push (itO t1 l1)) l2 ys := hb.stay fun o q => Heap.get?_push_of_some _ q
    wp_walk using zx_iter ha, zx_iter hb2
    exact ⟨_, rfl, h⟩
section
variable {prog : Program} {w : World} {A : Around} {E : Value → Shared → Prop} {s : Shared} {t1 t2 : Bool}
theorem zx_call {l1 l2 : Addr} {xs ys : Array Value} {Q : Value → Shared → Prop} (ha : SqAt t1 s.heap l1 xs) (hb : SqAt t2 s.heap l2 ys)
    (h : ∀ h', IsZip h' (s.heap.objs.size + 4) (s.heap.objs.size + 2) (s.heap.objs.size + 3) .none → IsPair h' (s.heap.objs.size + 2) (.ref s.heap.objs.size) (.ref (s.heap.objs.size + 1)) → IsPair h' (s.heap.objs.size + 3) .none .none →
      ItAt t1 h' s.heap.objs.size l1 0 → ItAt t2 h' (s.heap.objs.size + 1) l2 0 → (∀ c o, s.heap.get? c = some o → h'.get? c = some o) → Q (.ref (s.heap.objs.size + 4)) { s with heap := h' }) : wpAny (model prog w) A (call (.type "zip") [.ref l1, .ref l2]) Q E s := by
  refine callType_new F.called_zip (by decide) (F.typeCall_zip_2 _ _) (F.newCall_zip_2 _ _) (fun obj => F.args_object_init_3 obj _ _) F.entry_zip_new (zx_new t1 t2 l1 l2 xs ys) ⟨ha, hb, ?_⟩
  generalize hn : s.heap.objs.size = n at h
  have z1 : (zx1 t1 s.heap l1).objs.size = n + 1 := by rw [Heap.size_push, hn]
  have z2 : (zx2 t1 t2 s.heap l1 l2).objs.size = n + 2 := by rw [Heap.size_push, z1]
  have z3 : (zx3 t1 t2 s.heap l1 l2).objs.size = n + 3 := by rw [Heap.size_push, z2]
  have z4 : (zx4 t1 t2 s.heap l1 l2).objs.size = n + 4 := by rw [Heap.size_push, z3]
  have up : ∀ {hh : Heap} (o : Obj) {c : Addr} {u : Obj}, hh.get? c = some u → (hh.push o).get? c = some u := fun o _ _ q => Heap.get?_push_of_some o q
  have g5 : (zx5 t1 t2 s.heap l1 l2).get? (n + 4) = some { cls := .type "zip", data := .fields #[.none, .bool false, .bool false, .ref (n + 2), .ref (n + 3)] } := by
    have := Heap.get?_push_size (zx4 t1 t2 s.heap l1 l2) (o := { cls := .type "zip", data := .fields #[.none, .bool false, .bool false, .ref (zx2 t1 t2 s.heap l1 l2).objs.size, .ref (zx3 t1 t2 s.heap l1 l2).objs.size] }) rfl
    rw [z4, z2, z3] at this
    rw [← this]
    show Heap.get? (Heap.push _ { cls := .type "zip", data := .fields #[.none, .bool false, .bool false, .ref (zx2 t1 t2 s.heap l1 l2).objs.size, .ref (zx3 t1 t2 s.heap l1 l2).objs.size] }) _ = _
    rw [z2, z3]
  have g4 : (zx5 t1 t2 s.heap l1 l2).get? (n + 3) = some { cls := .type "tuple", data := .seq #[.none, .none] } := by
    have := Heap.get?_push_size (zx3 t1 t2 s.heap l1 l2) (o := { cls := .type "tuple", data := .seq #[.none, .none] }) rfl
    rw [z3] at this
    exact up _ this
  have g3 : (zx5 t1 t2 s.heap l1 l2).get? (n + 2) = some { cls := .type "tuple", data := .seq #[.ref n, .ref (n + 1)] } := by
    have := Heap.get?_push_size (zx2 t1 t2 s.heap l1 l2) (o := { cls := .type "tuple", data := .seq #[.ref s.heap.objs.size, .ref (zx1 t1 s.heap l1).objs.size] }) rfl
    rw [z2] at this
    exact (up _ (up _ this)).trans (by rw [hn, z1])
  have g2 : (zx5 t1 t2 s.heap l1 l2).get? (n + 1) = some (itO t2 l2) := by
    have := Heap.get?_push_size (zx1 t1 s.heap l1) (o := itO t2 l2) (by cases t2 <;> rfl)
    rw [z1] at this
    exact up _ (up _ (up _ this))
  have g1 : (zx5 t1 t2 s.heap l1 l2).get? n = some (itO t1 l1) := by
    have := Heap.get?_push_size s.heap (o := itO t1 l1) (by cases t1 <;> rfl)
    rw [hn] at this
    exact up _ (up _ (up _ (up _ this)))
  show _ ∧ _
  rw [z4]
  exact ⟨⟨_, g5, rfl⟩, h _ g5 g3 g4 (by cases t1 <;> exact ⟨_, g1, rfl, rfl⟩) (by cases t2 <;> exact ⟨_, g2, rfl, rfl⟩) fun c o q => up _ (up _ (up _ (up _ (up _ q))))⟩
end
end El

set_option Elab.async false
set_option linter.all false
set_option maxRecDepth 100000
set_option maxHeartbeats 4000000
namespace El
open PySem PySem.Spec PyProof.Rows L2 RZ
variable [LawTabs]
/-! ### zip of a list and a tuple: the rule -/
def SqX (t : Bool) (K : PySem.W.Frag) (H : Hp) (a : Addr) (xs : List V) : Prop := match t with
  | true => SqT K H a xs
  | false => SqL K H a xs
def Itx (t1 t2 : Bool) (K : PySem.W.Frag) (a b : Addr) : It :=
  ⟨fun i H => ∃ (xs ys : List V) (x y : V), SqX t1 K H a xs ∧ SqX t2 K H b ys ∧ xs[i]? = some x ∧ ys[i]? = some y,
    fun i H v H' => ∃ T x y, v = .ref T ∧ H T = none ∧ H' = upd H T (.tup [x, y]) ∧ (∀ xs, SqX t1 K H a xs → xs[i]? = some x) ∧ ∀ ys, SqX t2 K H b ys → ys[i]? = some y,
    fun i H => ∃ xs ys : List V, SqX t1 K H a xs ∧ SqX t2 K H b ys ∧ (xs.length ≤ i ∨ ys.length ≤ i)⟩
section
variable {X : Cx} {pins : List (Addr × Obj)} {σ : L2.St} {H : Hp} {s : Shared} {t t1 t2 : Bool} {a : Addr} {xs ys : List V}
theorem sqx_at (I : Inv X pins σ H s) (h : SqX t X.K H a xs) : ∃ its : List Value, Vals xs its ∧ SqAt t s.heap a its.toArray := by
  cases t with
  | true => obtain ⟨its, r, p, _⟩ := I.tuple h; exact ⟨its, r, p⟩
  | false => obtain ⟨its, r, p, _⟩ := I.list h; exact ⟨its, r, p.isList⟩
theorem sqx_inj (I : Inv X pins σ H s) (h : SqX t X.K H a xs) (h' : SqX t X.K H a ys) : xs = ys := by
  cases t with
  | true => exact I.tuple_inj h h'
  | false => exact I.list_inj h h'
theorem five {P : Addr → Prop} {z a b c d x : Addr} (hx : x ∈ [z, a, b, c, d]) (h0 : P z) (h1 : P a) (h2 : P b) (h3 : P c) (h4 : P d) : P x := by
  simp only [List.mem_cons, List.not_mem_nil, or_false] at hx
  rcases hx with rfl | rfl | rfl | rfl | rfl <;> assumption
theorem turn_zx {P : Program} {w : World} {K : PySem.W.Frag} {elts : List Expr} {kk : Nat} {tpos : Pos} {a b z TI TO i1 i2 : Addr} (D : ZipApart z TI TO i1 i2 a b) :
    Turn P w K (.Tuple elts kk tpos) (Itx t1 t2 K a b) [z, TI, TO, i1, i2] z (fun i h => IsZip h z TI TO .none ∧ IsPair h TI (.ref i1) (.ref i2) ∧ (∃ x y, IsPair h TO x y) ∧ ItAt t1 h i1 a i ∧ ItAt t2 h i2 b i) where
  mem := List.mem_cons_self
  obj := fun i h ⟨hz, hTI, ⟨x, y, hTO⟩, j1, j2⟩ c hc => by
    have ite : ∀ {t : Bool} {k l : Addr} {n : Nat}, ItAt t h k l n → ∃ o, h.get? k = some o ∧ ∀ v, o.data ≠ .cell v := fun {t k l n} q => by
      cases t <;> (obtain ⟨o, e, _, d⟩ := q; exact ⟨o, e, fun v z => by rw [d] at z; cases z⟩)
    exact five (P := fun c => ∃ o, h.get? c = some o ∧ ∀ v, o.data ≠ .cell v) hc ⟨_, hz, fun v q => nomatch q⟩ ⟨_, hTI, fun v q => nomatch q⟩ ⟨_, hTO, fun v q => nomatch q⟩ (ite j1) (ite j2)
  keep := fun i h h' ⟨hz, hTI, ⟨x, y, hTO⟩, j1, j2⟩ k => ⟨k z (by simp) _ hz, k TI (by simp) _ hTI, ⟨x, y, k TO (by simp) _ hTO⟩, j1.stay (k i1 (by simp)), j2.stay (k i2 (by simp))⟩
  item := by
    intro X hP hw hK hc i pins s σ H E I hf st hg
    subst hP hw hK
    obtain ⟨hz, hTI, ⟨x0, y0, hTO⟩, j1, j2⟩ := st
    obtain ⟨xs, ys, x, y, qx, qy, hx, hy⟩ := hg
    obtain ⟨us, ru, pu⟩ := sqx_at I qx
    obtain ⟨vs, rv, pv⟩ := sqx_at I qy
    obtain ⟨u, hu, r1⟩ := ru.get hx
    obtain ⟨v, hv, r2⟩ := rv.get hy
    have lz := Heap.lt_size hz
    refine zx_next D hz hTI hTO j1 j2 pu pv (x := u) (y := v) (by simpa using hu) (by simpa using hv) fun h' z' TO' j1' j2' hT hsz hk => ⟨_, rfl, wpAny_letOwnedTupleGo_zip (s := { s with heap := h' }) z' fun h2 z2 sb => ?_⟩
    have pair : h2.get? s.heap.objs.size = some { cls := .type "tuple", data := .seq #[u, v] } := (sb.2 _ (Nat.ne_of_gt lz)).trans hT
    have same : ∀ c o, c ∉ [z, TI, TO, i1, i2] → s.heap.get? c = some o → h2.get? c = some o := fun c o hb q => by
      have ne : ∀ d, d ∈ [z, TI, TO, i1, i2] → c ≠ d := fun d hd e => hb (e ▸ hd)
      exact (sb.2 c (ne z (by simp))).trans (hk c o (ne z (by simp)) (ne TO (by simp)) (ne i1 (by simp)) (ne i2 (by simp)) q)
    have J : Inv X pins σ (upd H s.heap.objs.size (.tup [x, y])) { s with heap := h2 } :=
      I.turnedNew (t' := s.toks) (ch := [z, TI, TO, i1, i2]) same hf (Nat.le_refl _) ⟨by show 2 ≤ sizeLine; decide, [u, v], .cons r1 (.cons r2 .nil), ⟨_, pair, rfl, _, rfl⟩⟩
    refine ⟨.ref s.heap.objs.size, _, J, rfl, ⟨_, x, y, rfl, I.hok.fresh (Nat.le_refl _), rfl, fun l hl => by rw [sqx_inj I hl qx]; exact hx, fun l hl => by rw [sqx_inj I hl qy]; exact hy⟩,
      ⟨z2, (sb.2 _ D.TIz).trans (hk _ _ D.TIz D.TITO D.TIi1 D.TIi2 hTI), ⟨u, v, (sb.2 _ D.TOz).trans TO'⟩, j1'.stay fun o q => (sb.2 _ D.i1z).trans q, j2'.stay fun o q => (sb.2 _ D.i2z).trans q⟩, fun c hc => ?_⟩
    have lt : c < s.heap.objs.size := five (P := fun c => c < s.heap.objs.size) hc lz (Heap.lt_size hTI) (Heap.lt_size hTO) j1.lt j2.lt
    rw [upd_ne (Nat.ne_of_lt lt)]
    exact (hf c hc).1
  done := by
    intro X hP hw hK hc i pins s σ H E I hf st hg
    subst hP hw hK
    obtain ⟨hz, hTI, ⟨x0, y0, hTO⟩, j1, j2⟩ := st
    obtain ⟨xs, ys, qx, qy, hend⟩ := hg
    obtain ⟨us, ru, pu⟩ := sqx_at I qx
    obtain ⟨vs, rv, pv⟩ := sqx_at I qy
    have n1 := ru.length
    have n2 := rv.length
    refine zx_stop (I.ok.hd hc) D hz hTI hTO j1 j2 pu pv (hend.imp (fun q => by simp; omega) (fun q => by simp; omega)) fun h' hk => ⟨rfl, I.turnedL (t' := s.toks) (ch := [z, TI, TO, i1, i2]) (fun c o hb q => ?_) hf⟩
    have ne : ∀ d, d ∈ [z, TI, TO, i1, i2] → c ≠ d := fun d hd e => hb (e ▸ hd)
    exact hk c o (ne z (by simp)) (ne TO (by simp)) (ne i1 (by simp)) (ne i2 (by simp)) q
  self := fun A i s Q E st h => wpAny_pyIter_zip st.1 h
end
def iZipX (t1 t2 : Bool) (K : PySem.W.Frag) (ta : TA) : TI := fun σ H R => ta σ H fun vs H1 => ∃ a b xs ys, vs = [.ref a, .ref b] ∧ SqX t1 K H1 a xs ∧ SqX t2 K H1 b ys ∧ R (Itx t1 t2 K a b) H1
theorem kzipX (t1 t2 : Bool) {X : Cx} (K : PySem.W.Frag) {e e2 : Expr} {ta : TA} {p pos tpos : Pos} {elts : List Expr} {kk : Nat} (hg : Gl X "zip") (hm : X.mg "zip" = none) (ha : PA X [e, e2] ta)
    (hs : starEach [e, e2] X.env = (false, eval e X.env) :: starEach [e2] X.env := by rfl) (hpl : (backTo pos (starEach [e2] X.env)).any (·.1) = false := by rfl) (hK : X.K = K := by rfl) :
    PI X (.Tuple elts kk tpos) (.Call (.Name "zip" p) [e, e2] [] pos) (iZipX t1 t2 K ta) := by
  subst hK
  refine ⟨fun pins s σ H R I h => Call_ (ld_blt I hg hm boot_zip (callWith_type1 (thn (ha.run pos pins s σ H _ I h) fun us s1 ⟨vs, H1, I1, r1, a, b, xs, ys, ex, qx, qy, q⟩ => ?_) hs hpl))⟩
  subst ex
  obtain ⟨us1, ru, pu⟩ := sqx_at I1 qx
  obtain ⟨us2, rv, pv⟩ := sqx_at I1 qy
  cases r1 with
  | cons r rr => cases rr with
    | cons r' rr =>
      cases rr
      cases r
      cases r'
      refine zx_call pu pv fun h' hz hTI hTO j1 j2 hk => wpAny_pyIter_zip hz ?_
      generalize hn : s1.heap.objs.size = n at *
      refine ⟨n + 4, [n + 4, n + 2, n + 3, n, n + 1], _, _, H1, rfl, I1.kept (t' := s1.toks) hk, turn_zx (PySem.W.ktu_apart n a b (by rw [← hn]; exact pu.lt) (by rw [← hn]; exact pv.lt)), ⟨hz, hTI, ⟨_, _, hTO⟩, j1, j2⟩, fun c hc => ?_, q⟩
      have le : s1.heap.objs.size ≤ c := by
        rw [hn]
        exact five (P := fun c => n ≤ c) hc (Nat.le_add_right _ _) (Nat.le_add_right _ _) (Nat.le_add_right _ _) (Nat.le_refl _) (Nat.le_add_right _ _)
      exact I1.fpOk le (I1.hok.fresh le)
theorem walk_zx {t1 t2 : Bool} {K : PySem.W.Frag} {a b : Addr} {xs ys : List V} {n : Nat} (hn : n = min xs.length ys.length) : Walk (Itx t1 t2 K a b) n (fun H => SqX t1 K H a xs ∧ SqX t2 K H b ys) (YPair (fun i => xs[i]?) (fun i => ys[i]?)) := by
  subst hn
  refine ⟨fun i _ hi q => ⟨xs, ys, xs[i]'(by omega), ys[i]'(by omega), q.1, q.2, by simp [show i < xs.length by omega], by simp [show i < ys.length by omega]⟩, fun _ q => ⟨xs, ys, q.1, q.2, by omega⟩, fun i H v H' _ q y => ?_⟩
  obtain ⟨T, x, z, h1, h2, h3, h4, h5⟩ := y
  exact ⟨T, x, z, h1, h2, h3, h4 xs q.1, h5 ys q.2⟩
end El

set_option linter.all false
set_option maxRecDepth 100000
set_option maxHeartbeats 4000000
namespace El
/-! ### walks: where they come, and how they rest -/
theorem sumQ_zero {f : Nat → Rat} : ∀ {n : Nat}, (∀ i, i < n → f i = 0) → sumQ n f = 0
  | 0, _ => rfl
  | n + 1, h => by
    show sumQ n f + f n = 0
    rw [sumQ_zero fun i hi => h i (by omega), h n (by omega)]
    grind
theorem sumQ_one {f : Nat → Rat} {n k : Nat} (hk : k < n) (h : ∀ i, i < n → i ≠ k → f i = 0) : sumQ n f = f k := by
  induction n with
  | zero => omega
  | succ n ih =>
    show sumQ n f + f n = f k
    by_cases e : k = n
    · rw [e, sumQ_zero fun i hi => h i (by omega) (by omega)]; grind
    · rw [ih (by omega) fun i hi hne => h i (by omega) hne, h n (by omega) (fun z => e z.symm)]; grind
theorem sumQ_comm (f : Nat → Nat → Rat) : ∀ m n, sumQ m (fun i => sumQ n (fun j => f i j)) = sumQ n (fun j => sumQ m (fun i => f i j))
  | 0, n => (sumQ_zero fun _ _ => rfl).symm
  | m + 1, n => by
    show sumQ m _ + sumQ n _ = sumQ n (fun j => sumQ m (fun i => f i j) + f m j)
    rw [sumQ_add, sumQ_comm f m n]
theorem sumQ_le {f g : Nat → Rat} : ∀ {n : Nat}, (∀ i, i < n → f i ≤ g i) → sumQ n f ≤ sumQ n g
  | 0, _ => Rat.le_refl
  | n + 1, h => by
    have h1 := sumQ_le (n := n) fun i hi => h i (by omega)
    have h2 := h n (by omega)
    show sumQ n f + f n ≤ sumQ n g + g n
    grind
theorem sumQ_nonneg {f : Nat → Rat} {n : Nat} (h : ∀ i, i < n → 0 ≤ f i) : 0 ≤ sumQ n f := by
  have := sumQ_le (f := fun _ => 0) h
  rw [sumQ_zero fun _ _ => rfl] at this
  exact this
/-- term by term at most, together alike: alike term by term -/
theorem sumQ_eq {f g : Nat → Rat} : ∀ {n : Nat}, (∀ i, i < n → f i ≤ g i) → sumQ n f = sumQ n g → ∀ i, i < n → f i = g i
  | 0, _, _, i, hi => absurd hi (Nat.not_lt_zero i)
  | n + 1, h, e, i, hi => by
    have h1 := sumQ_le (n := n) fun i hi => h i (by omega)
    have h2 := h n (by omega)
    have e' : sumQ n f + f n = sumQ n g + g n := e
    have e1 : sumQ n f = sumQ n g := by grind
    by_cases z : i = n
    · subst z; grind
    · exact sumQ_eq (n := n) (fun i hi => h i (by omega)) e1 i (by omega)
theorem sumQ_pos {f : Nat → Rat} {n k : Nat} (hk : k < n) (h : ∀ i, i < n → 0 ≤ f i) (hp : 0 < f k) : 0 < sumQ n f := by
  have h0 := sumQ_nonneg h
  have hne : sumQ n f ≠ 0 := fun z => by
    have := sumQ_eq (f := fun _ => 0) (g := f) h (by rw [sumQ_zero fun _ _ => rfl, z]) k hk
    grind
  grind
def absQ (x : Rat) : Rat := if 0 ≤ x then x else -x
theorem absQ_nonneg (x : Rat) : 0 ≤ absQ x := by unfold absQ; grind
theorem absQ_ge (x : Rat) : x ≤ absQ x := by unfold absQ; grind
theorem absQ_ge' (x : Rat) : -x ≤ absQ x := by unfold absQ; grind
theorem absQ_add (x y : Rat) : absQ (x + y) ≤ absQ x + absQ y := by unfold absQ; grind
theorem absQ_mul {x c : Rat} (h : 0 ≤ c) : absQ (x * c) = absQ x * c := by
  unfold absQ
  by_cases hx : 0 ≤ x
  · rw [if_pos hx, if_pos (Rat.mul_nonneg hx h)]
  · by_cases hc : c = 0
    · subst hc; grind
    · have h1 : 0 < c := by grind
      have h2 : 0 < (-x) * c := Rat.mul_pos (by grind) h1
      rw [if_neg hx, if_neg (by grind)]
      grind
theorem absQ_sum (f : Nat → Rat) : ∀ n, absQ (sumQ n f) ≤ sumQ n fun i => absQ (f i)
  | 0 => by show absQ 0 ≤ 0; unfold absQ; grind
  | n + 1 => by
    have h1 := absQ_sum f n
    have h2 := absQ_add (sumQ n f) (f n)
    show absQ (sumQ n f + f n) ≤ (sumQ n fun i => absQ (f i)) + absQ (f n)
    grind
/-- comes from one to another -/
inductive Rch (E : Nat → Nat → Prop) : Nat → Nat → Prop
  | refl (a : Nat) : Rch E a a
  | step {a b c : Nat} : Rch E a b → E b c → Rch E a c
theorem Rch.trans {E : Nat → Nat → Prop} {a b c : Nat} (h : Rch E a b) (g : Rch E b c) : Rch E a c := by
  induction g with
  | refl => exact h
  | step _ e ih => exact ih.step e
structure Chain (n : Nat) (P : Nat → Nat → Nat) (W : Nat) : Prop where
  pos : 1 ≤ W
  row : ∀ a, a < n → (sumQ n fun b => (P a b : Rat)) = (W : Rat)
def stepC (n : Nat) (P : Nat → Nat → Nat) (a b : Nat) : Prop := b < n ∧ 0 < P a b
noncomputable def rchB (n : Nat) (P : Nat → Nat → Nat) (p q : Nat) : Bool := @decide (Rch (stepC n P) p q) (Classical.propDecidable _)
theorem rchB_iff {n : Nat} {P : Nat → Nat → Nat} {p q : Nat} : rchB n P p q = true ↔ Rch (stepC n P) p q := by unfold rchB; exact @decide_eq_true_iff _ (Classical.propDecidable _)
noncomputable def reachC (n : Nat) (P : Nat → Nat → Nat) (p : Nat) : List Nat := (List.range n).filter (rchB n P p)
theorem rch_lt {n : Nat} {P : Nat → Nat → Nat} {a b : Nat} (ha : a < n) (h : Rch (stepC n P) a b) : b < n := by
  cases h with
  | refl => exact ha
  | step _ e => exact e.1
theorem mem_reach {n : Nat} {P : Nat → Nat → Nat} {p q : Nat} (hp : p < n) : q ∈ reachC n P p ↔ Rch (stepC n P) p q := by
  unfold reachC
  rw [List.mem_filter, List.mem_range, rchB_iff]
  exact ⟨fun h => h.2, fun h => ⟨rch_lt hp h, h⟩⟩
theorem reach_eq {n : Nat} {P : Nat → Nat → Nat} {p q : Nat} (h1 : Rch (stepC n P) p q) (h2 : Rch (stepC n P) q p) : reachC n P p = reachC n P q := by
  unfold reachC
  refine List.filter_congr fun r _ => ?_
  have : rchB n P p r = true ↔ rchB n P q r = true := by rw [rchB_iff, rchB_iff]; exact ⟨fun h => h2.trans h, fun h => h1.trans h⟩
  exact Bool.eq_iff_iff.mpr this
theorem reach_sub {n : Nat} {P : Nat → Nat → Nat} {p q : Nat} (hp : p < n) (h1 : Rch (stepC n P) p q) : ∀ r ∈ reachC n P q, r ∈ reachC n P p := fun r hr =>
  (mem_reach hp).mpr (h1.trans ((mem_reach (rch_lt hp h1)).mp hr))
theorem filter_sub_len {p q : Nat → Bool} : ∀ {l : List Nat}, (∀ x ∈ l, p x = true → q x = true) → (l.filter p).length ≤ (l.filter q).length ∧ ((l.filter p).length = (l.filter q).length → l.filter p = l.filter q)
  | [], _ => ⟨Nat.le_refl _, fun _ => rfl⟩
  | a :: l, h => by
    obtain ⟨i1, i2⟩ := filter_sub_len (p := p) (q := q) (l := l) fun x hx => h x (List.mem_cons_of_mem a hx)
    rw [List.filter_cons, List.filter_cons]
    by_cases hp : p a = true
    · rw [if_pos hp, if_pos (h a List.mem_cons_self hp)]
      exact ⟨Nat.succ_le_succ i1, fun e => by rw [i2 (by simpa using e)]⟩
    · rw [if_neg hp]
      by_cases hq : q a = true
      · rw [if_pos hq]
        exact ⟨Nat.le_succ_of_le i1, fun e => by rw [List.length_cons] at e; omega⟩
      · rw [if_neg hq]; exact ⟨i1, i2⟩
theorem exists_closed {n : Nat} {P : Nat → Nat → Nat} : ∀ (k p : Nat), p < n → (reachC n P p).length ≤ k → ∃ q, Rch (stepC n P) p q ∧ ∀ r, Rch (stepC n P) q r → reachC n P r = reachC n P q
  | 0, p, hp, hk => by
    have := (mem_reach (P := P) hp).mpr (Rch.refl p)
    rw [List.length_eq_zero_iff.mp (Nat.le_zero.mp hk)] at this
    cases this
  | k + 1, p, hp, hk => by
    by_cases h : ∀ r, Rch (stepC n P) p r → reachC n P r = reachC n P p
    · exact ⟨p, .refl p, h⟩
    · obtain ⟨r, hr⟩ := Classical.not_forall.mp h
      obtain ⟨h1, h2⟩ := Classical.not_imp.mp hr
      have hrn := rch_lt hp h1
      have sub := filter_sub_len (l := List.range n) (p := rchB n P r) (q := rchB n P p) fun x _ hx => rchB_iff.mpr (h1.trans (rchB_iff.mp hx))
      have hlt : (reachC n P r).length < (reachC n P p).length := Nat.lt_of_le_of_ne sub.1 fun e => h2 (sub.2 e)
      obtain ⟨q, q1, q2⟩ := exists_closed (P := P) k r hrn (by omega)
      exact ⟨q, h1.trans q1, q2⟩
def closB (n : Nat) (R : Nat → List Nat) (p : Nat) : Bool := decide ((R p).headD n = p) && (R p).all fun q => decide (R q = R p)
noncomputable def closedC (n : Nat) (P : Nat → Nat → Nat) : List (List Nat) := ((List.range n).filter (closB n (reachC n P))).map (reachC n P)
theorem head_mem {l : List Nat} {d : Nat} (h : l ≠ []) : l.headD d ∈ l := by
  cases l with
  | nil => exact absurd rfl h
  | cons a l => exact List.mem_cons_self
/-- a closed class, told by its least place -/
theorem closed_mem {n : Nat} {P : Nat → Nat → Nat} {q : Nat} (hq : q < n) (h : ∀ r, Rch (stepC n P) q r → reachC n P r = reachC n P q) : closB n (reachC n P) ((reachC n P q).headD n) = true ∧ (reachC n P q).headD n < n ∧ reachC n P ((reachC n P q).headD n) = reachC n P q := by
  have hne : reachC n P q ≠ [] := List.ne_nil_of_mem ((mem_reach hq).mpr (Rch.refl q))
  have hm := head_mem (d := n) hne
  have hr := (mem_reach hq).mp hm
  have e := h _ hr
  refine ⟨?_, rch_lt hq hr, e⟩
  unfold closB
  rw [e, decide_eq_true rfl, Bool.true_and]
  exact List.all_eq_true.mpr fun r hr => decide_eq_true (h r ((mem_reach hq).mp hr))
theorem closed_of {n : Nat} {P : Nat → Nat → Nat} {p : Nat} (hp : p < n) (h : closB n (reachC n P) p = true) : ∀ r, Rch (stepC n P) p r → reachC n P r = reachC n P p := fun r hr => by
  unfold closB at h
  exact of_decide_eq_true (List.all_eq_true.mp (Bool.and_eq_true_iff.mp h).2 r ((mem_reach hp).mpr hr))
/-- one closed set: it is come to from everywhere -/
theorem one_closed {n : Nat} {P : Nat → Nat → Nat} {C : List Nat} (h : closedC n P = [C]) : ∀ p, p < n → ∀ q ∈ C, Rch (stepC n P) p q := fun p hp q hq => by
  obtain ⟨r, r1, r2⟩ := exists_closed (P := P) _ p hp (Nat.le_refl _)
  have hr := rch_lt hp r1
  obtain ⟨m1, m2, m3⟩ := closed_mem hr r2
  have : reachC n P ((reachC n P r).headD n) ∈ closedC n P := List.mem_map.mpr ⟨_, List.mem_filter.mpr ⟨List.mem_range.mpr m2, m1⟩, rfl⟩
  rw [h, m3] at this
  rw [← List.mem_singleton.mp this] at hq
  exact r1.trans ((mem_reach hr).mp hq)
theorem closed_in {n : Nat} {P : Nat → Nat → Nat} {C : List Nat} (h : C ∈ closedC n P) : ∃ m, m < n ∧ C = reachC n P m ∧ m ∈ C ∧ ∀ r ∈ C, reachC n P r = C := by
  unfold closedC at h
  obtain ⟨m, hm, rfl⟩ := List.mem_map.mp h
  obtain ⟨m1, m2⟩ := List.mem_filter.mp hm
  have hn := List.mem_range.mp m1
  exact ⟨m, hn, rfl, (mem_reach hn).mpr (Rch.refl m), fun r hr => closed_of hn m2 r ((mem_reach hn).mp hr)⟩
/-- where one place is come to from everywhere there is one closed set -/
theorem closed_one {n : Nat} {P : Nat → Nat → Nat} {z : Nat} (hz : z < n) (h : ∀ p, p < n → Rch (stepC n P) p z) : closedC n P = [reachC n P z] := by
  have hcl : ∀ r, Rch (stepC n P) z r → reachC n P r = reachC n P z := fun r hr => (reach_eq hr (h r (rch_lt hz hr))).symm
  obtain ⟨m1, m2, m3⟩ := closed_mem hz hcl
  have huni : ∀ p, p < n → closB n (reachC n P) p = true → p = (reachC n P z).headD n := fun p hp hc => by
    have e := closed_of hp hc z (h p hp)
    rw [e]
    unfold closB at hc
    exact (of_decide_eq_true (Bool.and_eq_true_iff.mp hc).1).symm
  have hf : (List.range n).filter (closB n (reachC n P)) = [(reachC n P z).headD n] := by
    have hnd : ((List.range n).filter (closB n (reachC n P))).Nodup := List.nodup_range.filter _
    have hmem : ∀ x, x ∈ (List.range n).filter (closB n (reachC n P)) ↔ x = (reachC n P z).headD n := fun x => by
      rw [List.mem_filter, List.mem_range]
      exact ⟨fun ⟨h1, h2⟩ => huni x h1 h2, fun e => by rw [e]; exact ⟨m2, m1⟩⟩
    have hp : ((List.range n).filter (closB n (reachC n P))).Perm [(reachC n P z).headD n] := (List.perm_ext_iff_of_nodup hnd (by simp)).mpr fun x => by rw [hmem, List.mem_singleton]
    exact List.perm_singleton.mp hp
  unfold closedC
  rw [hf, List.map_cons, List.map_nil, m3]
/-- resting -/
def Stat (n : Nat) (P : Nat → Nat → Nat) (W : Nat) (x : Nat → Rat) : Prop := ∀ b, b < n → (sumQ n fun a => x a * (P a b : Rat)) = (W : Rat) * x b
theorem cast_nonneg (k : Nat) : (0 : Rat) ≤ (k : Rat) := by
  have : ((0 : Int) : Rat) ≤ ((k : Int) : Rat) := Rat.intCast_le_intCast.mpr (by omega)
  exact this
theorem cast_pos {k : Nat} (h : 0 < k) : (0 : Rat) < (k : Rat) := by
  have : ((0 : Int) : Rat) < ((k : Int) : Rat) := Rat.intCast_lt_intCast.mpr (by omega)
  exact this
theorem stat_sup {n : Nat} {P : Nat → Nat → Nat} {W : Nat} (hW : 1 ≤ W) {x : Nat → Rat} (hs : Stat n P W x) (h0 : ∀ a, a < n → 0 ≤ x a) {a b : Nat} (ha : a < n) (hx : 0 < x a) (h : Rch (stepC n P) a b) : 0 < x b := by
  induction h with
  | refl => exact hx
  | step h e ih =>
    rename_i b c
    have hb := rch_lt ha h
    have := sumQ_pos (n := n) (f := fun a => x a * (P a c : Rat)) hb (fun i hi => Rat.mul_nonneg (h0 i hi) (cast_nonneg _)) (Rat.mul_pos ih (cast_pos e.2))
    rw [hs c e.1] at this
    have hWp := cast_pos (show 0 < W by omega)
    refine Classical.byContradiction fun hn => ?_
    have h1 : x c = 0 := by have := h0 c e.1; grind
    rw [h1] at this
    grind
theorem stat_abs {n : Nat} {P : Nat → Nat → Nat} {W : Nat} (c : Chain n P W) {x : Nat → Rat} (hs : Stat n P W x) : Stat n P W fun a => absQ (x a) := by
  have hle : ∀ b, b < n → (W : Rat) * absQ (x b) ≤ sumQ n fun a => absQ (x a) * (P a b : Rat) := fun b hb => by
    have h1 := absQ_sum (fun a => x a * (P a b : Rat)) n
    rw [hs b hb] at h1
    have h2 : absQ ((W : Rat) * x b) = (W : Rat) * absQ (x b) := by rw [Rat.mul_comm, absQ_mul (cast_nonneg W), Rat.mul_comm]
    rw [h2] at h1
    have e : (sumQ n fun i => absQ (x i * (P i b : Rat))) = sumQ n fun a => absQ (x a) * (P a b : Rat) := sumQ_congr fun a _ => absQ_mul (cast_nonneg _)
    rw [← e]
    exact h1
  have hsum : (sumQ n fun b => (W : Rat) * absQ (x b)) = sumQ n fun b => sumQ n fun a => absQ (x a) * (P a b : Rat) := by
    rw [sumQ_comm (fun b a => absQ (x a) * (P a b : Rat))]
    refine sumQ_congr fun a ha => ?_
    rw [sumQ_mul, c.row a ha, Rat.mul_comm]
  exact fun b hb => (sumQ_eq hle hsum b hb).symm
theorem stat_zero {n : Nat} {P : Nat → Nat → Nat} {W : Nat} {C : List Nat} (c : Chain n P W) (hC : closedC n P = [C]) {x : Nat → Rat} (hs : Stat n P W x) (h0 : sumQ n x = 0) : ∀ a, a < n → x a = 0 := by
  have ha := stat_abs c hs
  have su : Stat n P W fun a => absQ (x a) + (-1) * x a := fun b hb => by
    have e : (sumQ n fun a => (absQ (x a) + (-1) * x a) * (P a b : Rat)) = sumQ n fun a => absQ (x a) * (P a b : Rat) + (-1) * (x a * (P a b : Rat)) := sumQ_congr fun a _ => by grind
    rw [e, sumQ_add, sumQ_mul, ha b hb, hs b hb]
    grind
  have sv : Stat n P W fun a => absQ (x a) + x a := fun b hb => by
    have e : (sumQ n fun a => (absQ (x a) + x a) * (P a b : Rat)) = sumQ n fun a => absQ (x a) * (P a b : Rat) + x a * (P a b : Rat) := sumQ_congr fun a _ => by grind
    rw [e, sumQ_add, ha b hb, hs b hb]
    grind
  have nu : ∀ a, a < n → 0 ≤ absQ (x a) + (-1) * x a := fun a _ => by have := absQ_ge (x a); grind
  have nv : ∀ a, a < n → 0 ≤ absQ (x a) + x a := fun a _ => by have := absQ_ge' (x a); grind
  obtain ⟨m, hm, _, hmC, _⟩ := closed_in (n := n) (P := P) (C := C) (by rw [hC]; exact List.mem_singleton.mpr rfl)
  have hcome := fun a ha => one_closed hC a ha m hmC
  -- not both signs
  by_cases hpos : ∃ a, a < n ∧ 0 < absQ (x a) + x a
  · obtain ⟨a, ha1, ha2⟩ := hpos
    have hxm := stat_sup c.pos sv nv ha1 ha2 (hcome a ha1)
    have hle : ∀ b, b < n → 0 ≤ x b := fun b hb => Classical.byContradiction fun hn => by
      have hb2 : 0 < absQ (x b) + (-1) * x b := by have := absQ_nonneg (x b); grind
      have hxm2 := stat_sup c.pos su nu hb hb2 (hcome b hb)
      unfold absQ at hxm hxm2
      grind
    exact fun b hb => (sumQ_eq (f := fun _ => 0) (g := x) hle (by rw [sumQ_zero fun _ _ => rfl, h0]) b hb).symm
  · have hle : ∀ b, b < n → x b ≤ 0 := fun b hb => Classical.byContradiction fun hn => hpos ⟨b, hb, by have := absQ_nonneg (x b); grind⟩
    exact fun b hb => sumQ_eq (f := x) (g := fun _ => 0) hle (by rw [sumQ_zero fun _ _ => rfl, h0]) b hb
theorem stat_one {n : Nat} {P : Nat → Nat → Nat} {W : Nat} {C : List Nat} (c : Chain n P W) (hC : closedC n P = [C]) {x y : Nat → Rat} (hx : Stat n P W x) (hy : Stat n P W y) (h1 : sumQ n x = 1) (h2 : sumQ n y = 1) : ∀ a, a < n → x a = y a := fun a ha => by
  have := stat_zero c hC (x := fun a => x a + (-1) * y a) (fun b hb => ?_) (by rw [sumQ_add, sumQ_mul, h1, h2]; grind) a ha
  · have h3 : x a + (-1) * y a = 0 := this
    grind
  · have e : (sumQ n fun a => (x a + (-1) * y a) * (P a b : Rat)) = sumQ n fun a => x a * (P a b : Rat) + (-1) * (y a * (P a b : Rat)) := sumQ_congr fun a _ => by grind
    rw [e, sumQ_add, sumQ_mul, hx b hb, hy b hb]
    grind
/-- values at some places, 0 elsewhere -/
def spread (C : List Nat) (v : Nat → Rat) (a : Nat) : Rat := sumQ C.length fun j => if C.getD j 0 = a then v j else 0
theorem spread_sum {C : List Nat} {n : Nat} (hC : ∀ a ∈ C, a < n) (v : Nat → Rat) (g : Nat → Rat) : (sumQ n fun a => spread C v a * g a) = sumQ C.length fun j => v j * g (C.getD j 0) := by
  have e : (sumQ n fun a => spread C v a * g a) = sumQ n fun a => sumQ C.length fun j => if C.getD j 0 = a then v j * g a else 0 := sumQ_congr fun a _ => by
    unfold spread
    rw [Rat.mul_comm, ← sumQ_mul]
    refine sumQ_congr fun j _ => ?_
    split
    · rw [Rat.mul_comm]
    · exact Rat.mul_zero _
  rw [e, sumQ_comm]
  refine sumQ_congr fun j hj => ?_
  have hm : C.getD j 0 < n := hC _ (List.mem_of_getElem? (at_getD hj))
  rw [sumQ_one hm fun a _ hne => if_neg fun z => hne z.symm, if_pos rfl]
theorem spread_at {C : List Nat} (nd : C.Nodup) {j : Nat} (hj : j < C.length) (v : Nat → Rat) : spread C v (C.getD j 0) = v j := by
  unfold spread
  rw [sumQ_one hj fun i hi hne => if_neg fun z => hne ?_, if_pos rfl]
  have h1 := at_getD (d := 0) hi
  have h2 := at_getD (d := 0) hj
  rw [z] at h1
  exact (List.getElem?_inj hi nd).mp (h1.trans h2.symm)
theorem spread_off {C : List Nat} {a : Nat} (h : a ∉ C) (v : Nat → Rat) : spread C v a = 0 := sumQ_zero fun j hj => if_neg fun z => h (by rw [← z]; exact List.mem_of_getElem? (at_getD hj))
/-- stationary on a closed set, but for one place: stationary everywhere -/
theorem stat_spread {n : Nat} {P : Nat → Nat → Nat} {W : Nat} {C : List Nat} (c : Chain n P W) (hC : ∀ a ∈ C, a < n) (nd : C.Nodup) (hcl : ∀ a ∈ C, ∀ b, b < n → 0 < P a b → b ∈ C) {v : Nat → Rat}
    (h : ∀ i, i + 1 < C.length → (sumQ C.length fun j => v j * ((P (C.getD j 0) (C.getD (i + 1) 0) : Rat) - (W : Rat) * (if C.getD j 0 = C.getD (i + 1) 0 then 1 else 0))) = 0) : Stat n P W (spread C v) := by
  have eq1 : ∀ b, (sumQ C.length fun j => v j * ((P (C.getD j 0) b : Rat) - (W : Rat) * (if C.getD j 0 = b then 1 else 0))) = (sumQ n fun a => spread C v a * (P a b : Rat)) + (-(W : Rat)) * spread C v b := fun b => by
    rw [spread_sum hC v (fun a => (P a b : Rat))]
    unfold spread
    rw [← sumQ_mul, ← sumQ_add]
    refine sumQ_congr fun j _ => ?_
    split <;> grind
  have off : ∀ b, b < n → b ∉ C → (sumQ n fun a => spread C v a * (P a b : Rat)) = (W : Rat) * spread C v b := fun b hb hnb => by
    rw [spread_off hnb, spread_sum hC v (fun a => (P a b : Rat))]
    rw [sumQ_zero fun j hj => by
      have hm := List.mem_of_getElem? (at_getD (d := 0) hj)
      have : P (C.getD j 0) b = 0 := Nat.eq_zero_of_not_pos fun hp => hnb (hcl _ hm b hb hp)
      rw [this]
      exact Rat.mul_zero _]
    exact (Rat.mul_zero _).symm
  have later : ∀ i, i + 1 < C.length → (sumQ n fun a => spread C v a * (P a (C.getD (i + 1) 0) : Rat)) = (W : Rat) * spread C v (C.getD (i + 1) 0) := fun i hi => by
    have := h i hi
    rw [eq1] at this
    grind
  intro b hb
  by_cases hbC : b ∈ C
  · obtain ⟨i, hi⟩ := List.mem_iff_getElem?.mp hbC
    have hil := (List.getElem?_eq_some_iff.mp hi).1
    have eb : C.getD i 0 = b := getD_eq hi
    cases i with
    | succ i => rw [← eb]; exact later i hil
    | zero =>
      -- the sum of all
      have hall : (sumQ n fun b => (sumQ n fun a => spread C v a * (P a b : Rat)) + (-(W : Rat)) * spread C v b) = 0 := by
        rw [sumQ_add, sumQ_mul, sumQ_comm (fun b a => spread C v a * (P a b : Rat))]
        have : (sumQ n fun a => sumQ n fun b => spread C v a * (P a b : Rat)) = sumQ n fun a => (W : Rat) * spread C v a := sumQ_congr fun a ha => by
          rw [sumQ_mul, c.row a ha, Rat.mul_comm]
        rw [this, sumQ_mul]
        grind
      rw [sumQ_one hb fun b' hb' hne => ?_] at hall
      · grind
      · by_cases hm : b' ∈ C
        · obtain ⟨i', hi'⟩ := List.mem_iff_getElem?.mp hm
          have hil' := (List.getElem?_eq_some_iff.mp hi').1
          have eb' : C.getD i' 0 = b' := getD_eq hi'
          cases i' with
          | zero => exact absurd (eb'.symm.trans eb) hne
          | succ i' => rw [← eb', later i' hil']; grind
        · rw [off b' hb' hm]; grind
  · exact off b hb hbC
end El

set_option linter.all false
set_option maxRecDepth 100000
set_option maxHeartbeats 4000000
namespace El
/-! ### the resting row -/
theorem sumQ_cons (f : Nat → Rat) : ∀ n, sumQ (n + 1) f = f 0 + sumQ n fun i => f (i + 1)
  | 0 => by show (0 : Rat) + f 0 = f 0 + 0; grind
  | n + 1 => by
    show sumQ (n + 1) f + f (n + 1) = f 0 + ((sumQ n fun i => f (i + 1)) + f (n + 1))
    rw [sumQ_cons f n]
    grind
theorem sumQ_list : ∀ r : List Nat, (sumQ r.length fun b => (r.getD b 0 : Rat)) = (r.sum : Rat)
  | [] => rfl
  | a :: r => by
    show sumQ (r.length + 1) _ = _
    rw [sumQ_cons]
    show (a : Rat) + (sumQ r.length fun i => (r.getD i 0 : Rat)) = _
    rw [sumQ_list r, List.sum_cons]
    have : ((a + r.sum : Nat) : Rat) = (a : Rat) + (r.sum : Rat) := by
      have := Rat.intCast_add (a : Int) (r.sum : Int)
      exact this
    rw [this]
theorem sum_ge : ∀ {r : List Nat} {x : Nat}, x ∈ r → x ≤ r.sum
  | a :: r, x, h => by
    rw [List.sum_cons]
    rcases List.mem_cons.mp h with rfl | h
    · omega
    · have := sum_ge h; omega
def restRows (P : Nat → Nat → Nat) (W : Nat) (C : List Nat) : List (List Int) := (C.tail.map fun to => (C.map fun p => (P p to : Int) - (W : Int) * (if p = to then 1 else 0)) ++ [0]) ++ [(C.map fun _ => (1 : Int)) ++ [1]]
section
variable {P : Nat → Nat → Nat} {W : Nat} {C : List Nat}
theorem rest_len (h : C ≠ []) : (restRows P W C).length = C.length := by
  unfold restRows
  rw [List.length_append, List.length_map, List.length_tail]
  have := List.length_pos_iff.mpr h
  show C.length - 1 + 1 = _
  omega
theorem rest_wide {r : List Int} (h : r ∈ restRows P W C) : r.length = C.length + 1 := by
  unfold restRows at h
  rcases List.mem_append.mp h with h | h
  · obtain ⟨to, _, rfl⟩ := List.mem_map.mp h
    rw [List.length_append, List.length_map]
    rfl
  · rw [List.mem_singleton.mp h, List.length_append, List.length_map]
    rfl
theorem tail_at {i : Nat} (hi : i + 1 < C.length) : C.tail[i]? = some (C.getD (i + 1) 0) := by
  rw [List.getElem?_tail]
  exact at_getD hi
theorem rest_row {i : Nat} (hi : i + 1 < C.length) : (restRows P W C).getD i [] = (C.map fun p => (P p (C.getD (i + 1) 0) : Int) - (W : Int) * (if p = C.getD (i + 1) 0 then 1 else 0)) ++ [0] := by
  refine getD_eq ?_
  unfold restRows
  rw [List.getElem?_append_left (by rw [List.length_map, List.length_tail]; omega), List.getElem?_map, tail_at hi]
  rfl
theorem rest_last (h : C ≠ []) : (restRows P W C).getD (C.length - 1) [] = (C.map fun _ => (1 : Int)) ++ [1] := by
  refine getD_eq ?_
  unfold restRows
  rw [List.getElem?_append_right (by rw [List.length_map, List.length_tail]; exact Nat.le_refl _), List.length_map, List.length_tail, Nat.sub_self]
  rfl
theorem app_at {f : Nat → Int} {z : Int} {j : Nat} (hj : j < C.length) : (C.map f ++ [z]).getD j 0 = f (C.getD j 0) := by
  refine getD_eq ?_
  rw [List.getElem?_append_left (by rw [List.length_map]; exact hj), List.getElem?_map, at_getD hj]
  rfl
theorem app_last {f : Nat → Int} {z : Int} : (C.map f ++ [z]).getD C.length 0 = z := by
  refine getD_eq ?_
  rw [List.getElem?_append_right (by rw [List.length_map]; exact Nat.le_refl _), List.length_map, Nat.sub_self]
  rfl
end
theorem rest_bits {c : Nat} (h : c ≤ 32) : c ^ c * 1000000 ^ c < 2 ^ 4000 := by
  have h1 : c ^ c ≤ 32 ^ 32 := Nat.le_trans (Nat.pow_le_pow_left h c) (Nat.pow_le_pow_right (by omega) h)
  have h2 : 1000000 ^ c ≤ (2 ^ 20) ^ 32 := Nat.le_trans (Nat.pow_le_pow_left (show 1000000 ≤ 2 ^ 20 by decide) c) (Nat.pow_le_pow_right (by decide) h)
  have h3 : 32 ^ 32 * (2 ^ 20) ^ 32 = 2 ^ 800 := by
    rw [show (32 : Nat) = 2 ^ 5 by decide, ← Nat.pow_mul, ← Nat.pow_mul, ← Nat.pow_add]
  have h4 : 2 ^ 800 < 2 ^ 4000 := Nat.pow_lt_pow_right (by decide) (by decide)
  have := Nat.mul_le_mul h1 h2
  omega
theorem castI (k : Nat) : (((k : Nat) : Int) : Rat) = ((k : Nat) : Rat) := rfl
theorem rest_solv {n : Nat} {P : Nat → Nat → Nat} {W : Nat} {C : List Nat} (c : Chain n P W) (hn : n ≤ 32) (hW : W ≤ 1000000) (hP : ∀ a b, a < n → b < n → P a b ≤ W) (hC : closedC n P = [C]) : Solv (restRows P W C) (C.length + 1) 1000000 := by
  obtain ⟨m, hm, hCm, hmC, hall⟩ := closed_in (n := n) (P := P) (C := C) (by rw [hC]; exact List.mem_singleton.mpr rfl)
  have hne : C ≠ [] := List.ne_nil_of_mem hmC
  have hlt : ∀ a ∈ C, a < n := fun a ha => by rw [hCm] at ha; exact rch_lt hm ((mem_reach hm).mp ha)
  have hnd : C.Nodup := by rw [hCm]; exact List.nodup_range.filter _
  have hlen : C.length ≤ n := by
    rw [hCm]
    unfold reachC
    refine Nat.le_trans (List.length_filter_le _ _) (by rw [List.length_range]; exact Nat.le_refl _)
  have hlen2 := rest_len (P := P) (W := W) hne
  have hpos := List.length_pos_iff.mpr hne
  have hcl : ∀ a ∈ C, ∀ b, b < n → 0 < P a b → b ∈ C := fun a ha b hb hp => by
    rw [← hall a ha]
    exact (mem_reach (hlt a ha)).mpr ((Rch.refl a).step ⟨hb, hp⟩)
  refine ⟨fun r hr => rest_wide hr, by omega, by omega, by omega, by decide, fun j i hj hi => ?_, by rw [hlen2]; exact rest_bits (by omega), fun x hx => ?_⟩
  · rw [hlen2] at hi
    unfold mxOf
    by_cases h : i + 1 < C.length
    · rw [rest_row h]
      by_cases h2 : j < C.length
      · rw [app_at h2]
        have := hP _ (C.getD (i + 1) 0) (hlt _ (List.mem_of_getElem? (at_getD (d := 0) h2))) (hlt _ (List.mem_of_getElem? (at_getD (d := 0) h)))
        split <;> omega
      · rw [show j = C.length by omega, app_last]; decide
    · rw [show i = C.length - 1 by omega, rest_last hne]
      by_cases h2 : j < C.length
      · rw [app_at h2]; decide
      · rw [show j = C.length by omega, app_last]; decide
  · rw [hlen2] at hx ⊢
    have hst := stat_spread c hlt hnd hcl (v := fun j => (x j : Rat)) fun i hi => by
      have := hx i (by omega)
      have h2 : ((sumN C.length fun c => mxOf (restRows P W C) c i * x c : Int) : Rat) = ((0 : Int) : Rat) := by rw [this]
      rw [← sumQ_int] at h2
      refine (sumQ_congr fun j hj => ?_).trans (h2.trans rfl)
      have e : mxOf (restRows P W C) j i = (P (C.getD j 0) (C.getD (i + 1) 0) : Int) - (W : Int) * (if C.getD j 0 = C.getD (i + 1) 0 then 1 else 0) := by
        unfold mxOf
        rw [rest_row hi, app_at hj]
      rw [e, Rat.intCast_mul, Rat.intCast_sub, Rat.intCast_mul, castI, castI, Rat.mul_comm]
      congr 2
      split <;> rfl
    have hsum : sumQ n (spread C fun j => (x j : Rat)) = 0 := by
      have h1 := spread_sum hlt (fun j => (x j : Rat)) fun _ => 1
      have e1 : (sumQ n fun a => spread C (fun j => (x j : Rat)) a * 1) = sumQ n (spread C fun j => (x j : Rat)) := sumQ_congr fun a _ => Rat.mul_one _
      rw [e1] at h1
      rw [h1]
      have := hx (C.length - 1) (by omega)
      have h2 : ((sumN C.length fun c => mxOf (restRows P W C) c (C.length - 1) * x c : Int) : Rat) = ((0 : Int) : Rat) := by rw [this]
      rw [← sumQ_int] at h2
      refine (sumQ_congr fun j hj => ?_).trans (h2.trans rfl)
      have e : mxOf (restRows P W C) j (C.length - 1) = 1 := by
        unfold mxOf
        rw [rest_last hne, app_at hj]
      rw [e, Int.one_mul, Rat.mul_one]
    intro j hj
    have := stat_zero c hC hst hsum (C.getD j 0) (hlt _ (List.mem_of_getElem? (at_getD hj)))
    rw [spread_at hnd hj] at this
    exact Rat.intCast_inj.mp (by rw [this]; rfl)
/-- the resting row -/
noncomputable def restW (n : Nat) (P : Nat → Nat → Nat) (W : Nat) (C : List Nat) : List Rat := (List.range n).map (spread C fun j => ((solR (restRows P W C) (C.length + 1)).getD j []).getD 0 0)
theorem rest_facts {n : Nat} {P : Nat → Nat → Nat} {W : Nat} {C : List Nat} (c : Chain n P W) (hn : n ≤ 32) (hW : W ≤ 1000000) (hP : ∀ a b, a < n → b < n → P a b ≤ W) (hC : closedC n P = [C]) :
    Stat n P W (fun a => (restW n P W C).getD a 0) ∧ sumQ n (fun a => (restW n P W C).getD a 0) = 1 := by
  have sv := rest_solv c hn hW hP hC
  obtain ⟨s1, s2, s3⟩ := solR_sol sv
  obtain ⟨m, hm, hCm, hmC, hall⟩ := closed_in (n := n) (P := P) (C := C) (by rw [hC]; exact List.mem_singleton.mpr rfl)
  have hne : C ≠ [] := List.ne_nil_of_mem hmC
  have hlt : ∀ a ∈ C, a < n := fun a ha => by rw [hCm] at ha; exact rch_lt hm ((mem_reach hm).mp ha)
  have hnd : C.Nodup := by rw [hCm]; exact List.nodup_range.filter _
  have hlen2 := rest_len (P := P) (W := W) hne
  have hpos := List.length_pos_iff.mpr hne
  have hcl : ∀ a ∈ C, ∀ b, b < n → 0 < P a b → b ∈ C := fun a ha b hb hp => by
    rw [← hall a ha]
    exact (mem_reach (hlt a ha)).mpr ((Rch.refl a).step ⟨hb, hp⟩)
  rw [hlen2] at s3
  have hst := stat_spread c hlt hnd hcl (v := fun j => ((solR (restRows P W C) (C.length + 1)).getD j []).getD 0 0) fun i hi => by
    have := s3 i 0 (by omega) (by omega)
    have er : mxOf (restRows P W C) (C.length + 0) i = 0 := by
      unfold mxOf
      rw [rest_row hi]; exact app_last
    rw [er] at this
    refine (sumQ_congr fun j hj => ?_).trans (this.trans rfl)
    have e : mxOf (restRows P W C) j i = (P (C.getD j 0) (C.getD (i + 1) 0) : Int) - (W : Int) * (if C.getD j 0 = C.getD (i + 1) 0 then 1 else 0) := by
      unfold mxOf
      rw [rest_row hi, app_at hj]
    rw [e, Rat.intCast_sub, Rat.intCast_mul, castI, castI, Rat.mul_comm]
    congr 3
    split <;> rfl
  have hsum : sumQ n (spread C fun j => ((solR (restRows P W C) (C.length + 1)).getD j []).getD 0 0) = 1 := by
    have h1 := spread_sum hlt (fun j => ((solR (restRows P W C) (C.length + 1)).getD j []).getD 0 0) fun _ => 1
    have e1 : (sumQ n fun a => spread C (fun j => ((solR (restRows P W C) (C.length + 1)).getD j []).getD 0 0) a * 1) = sumQ n (spread C fun j => ((solR (restRows P W C) (C.length + 1)).getD j []).getD 0 0) := sumQ_congr fun a _ => Rat.mul_one _
    rw [e1] at h1
    rw [h1]
    have := s3 (C.length - 1) 0 (by omega) (by omega)
    have er : mxOf (restRows P W C) (C.length + 0) (C.length - 1) = 1 := by
      unfold mxOf
      rw [rest_last hne]; exact app_last
    rw [er] at this
    refine (sumQ_congr fun j hj => ?_).trans (this.trans rfl)
    have e : mxOf (restRows P W C) j (C.length - 1) = 1 := by
      unfold mxOf
      rw [rest_last hne, app_at hj]
    rw [e, Rat.mul_one, show ((1 : Int) : Rat) = 1 from rfl, Rat.one_mul]
  have eg : ∀ a, a < n → (restW n P W C).getD a 0 = spread C (fun j => ((solR (restRows P W C) (C.length + 1)).getD j []).getD 0 0) a := fun a ha => getD_range ha
  refine ⟨fun b hb => ?_, ?_⟩
  · show _ = (W : Rat) * (restW n P W C).getD b 0
    rw [eg b hb, ← hst b hb]
    exact sumQ_congr fun a ha => by show (restW n P W C).getD a 0 * _ = _; rw [eg a ha]
  · rw [← hsum]
    exact sumQ_congr fun a ha => eg a ha
end El

set_option Elab.async false
set_option linter.all false
set_option maxRecDepth 100000
set_option maxHeartbeats 4000000
namespace El
open PySem PySem.Spec L2
variable [LawTabs]
/-! ### xs[i] += e -/
def rGetL : V → V → Hp → VK → Prop := fun x y H Q => ∃ p xs, ∃ n : Nat, ∃ v, x = .ref p ∧ y = .int (n : Int) ∧ H p = some (.lst xs) ∧ xs[n]? = some v ∧ Q v H
theorem get_list {X : Cx} : PGet X rGetL := by
  intro pins s σ H o i ov iv Q I ro ri h
  obtain ⟨p, xs, n, v, rfl, rfl, hp, hv, q⟩ := h
  cases ro
  obtain ⟨t, rfl⟩ := ri
  obtain ⟨its, r, pl, hz⟩ := I.list (SqL.of hp)
  obtain ⟨u, hu, ru⟩ := r.get hv
  have hl := r.length
  have hn : n < xs.length := (List.getElem?_eq_some_iff.mp hv).1
  have h63 := line63
  exact wpAny_getItem_list pl.isList (by omega) (by omega) (x := u) (by simpa using hu) ⟨v, H, I, ru, q⟩
theorem flat_one {α : Type} (v : α) : ∀ n : Nat, (List.replicate n [v]).flatten = List.replicate n v
  | 0 => rfl
  | n + 1 => by rw [List.replicate_succ, List.replicate_succ, List.flatten_cons, flat_one v n]; rfl
section
variable {K : PySem.W.Frag} {σ : St} {F H F' H' F0 H0 : Hp} {ta tb tc td te tl : TE} {tt : TT} {α β γ δ : Type} {R : Rp α} {S : Rp β} {T : Rp γ} {U : Rp δ} {x : α} {y : β} {xs : List α} {ys : List β} {D : Ends} {ts : TS} {E : XK} {i j : Int} {C : Addr} {l : Addr} {vs : List V} {ns : List Nat} {k : Nat}
theorem x_augI {n : Nat} {a b : Int} (e : ExT F H) (ha : Ev rRef ta σ F H l) (hi : Ev rInt tb σ F H (n : Int)) (hl : H l = some (.lst vs)) (hv : vs[n]? = some (.int a)) (h : Ev rInt te σ F H b)
    (k : ∀ F' H', Gr M0 F H F' H' → H' l = some (.lst vs) → D.nx σ (upd H' l (.lst (vs.set n (.int (a + b)))))) : tAugS ta tb te rGetL (ipI fun i j => i + j) rSetL D σ H :=
  ha F H (.refl e) _ fun v F1 H1 g1 r1 => hi F1 H1 g1 _ fun w F2 H2 g2 r2 => ⟨l, vs, n, .int a, r1, r2, g2.hx _ _ (g1.hx _ _ hl), hv, h F2 H2 (g1.trans g2) _ fun u F3 H3 g3 r3 => ⟨a, b, rfl, r3, by
    have hn : n < vs.length := (List.getElem?_eq_some_iff.mp hv).1
    have h3 := g3.hx _ _ (g2.hx _ _ (g1.hx _ _ hl))
    refine ⟨l, vs, (n : Int), n, r1, r2, h3, ?_, k F3 H3 ((g1.trans g2).trans g3) h3⟩
    unfold ixN
    rw [if_pos (by omega), if_pos (by omega)]
    rfl⟩⟩
theorem Ev.ints (h : Ev (rLst rNat) te σ F H ns) : Ev (rLst rInt) te σ F H (ns.map fun n : Nat => (n : Int)) := h.as fun F v ⟨a, vs, e, hl, p⟩ => ⟨a, vs, e, hl, by
  have := nats_paired p
  rw [this]
  exact paired_ints _⟩
/-! in, of numbers -/
theorem inV_nats (k : Nat) : ∀ ns : List Nat, inV (V.int (k : Int)) (ns.map fun n : Nat => V.int (n : Int)) = decide (k ∈ ns)
  | [] => rfl
  | n :: ns => by
    have h1 : eqV (V.int (n : Int)) (V.int (k : Int)) = decide (k = n) := by
      show ((n : Int) == (k : Int)) = _
      by_cases h : k = n
      · rw [decide_eq_true h, h]; exact beq_self_eq_true _
      · rw [decide_eq_false h]; exact beq_eq_false_iff_ne.mpr (by omega)
    show (eqV (V.int (n : Int)) (V.int (k : Int)) || inV (V.int (k : Int)) (ns.map fun n : Nat => V.int (n : Int))) = _
    rw [h1, inV_nats k ns]
    by_cases h : k = n
    · have hm : k ∈ n :: ns := by rw [h]; exact List.mem_cons_self
      rw [decide_eq_true h, decide_eq_true hm]; rfl
    · rw [decide_eq_false h, Bool.false_or]
      exact decide_eq_decide.mpr ⟨fun q => List.mem_cons_of_mem _ q, fun q => (List.mem_cons.mp q).resolve_left h⟩
theorem flat_nats : ∀ ns : List Nat, (ns.map fun n : Nat => V.int (n : Int)).all flatV = true
  | [] => rfl
  | n :: ns => by rw [List.map_cons, List.all_cons, flat_nats ns]; rfl
theorem ev_inM {neg : Bool} (hk : Ev rNat ta σ F H k) (ha : Ev rRef tb σ F H l) (hl : H l = some (.lst (ns.map fun n : Nat => V.int (n : Int)))) : Ev rBl (tOp (rIn K neg) ta tb) σ F H (if neg then !decide (k ∈ ns) else decide (k ∈ ns)) := fun F1 H1 g1 Q q =>
  hk F1 H1 g1 _ fun v F2 H2 g2 r => ha F2 H2 (g1.trans g2) _ fun w F3 H3 g3 e => by
    cases (show v = _ from r)
    refine ⟨l, _, e, .inl (SqL.of (g3.hx _ _ (g2.hx _ _ (g1.hx _ _ hl)))), rfl, flat_nats ns, ?_⟩
    rw [inV_nats]
    exact q _ F3 H3 (g2.trans g3) rfl
theorem ev_inL {neg : Bool} (hk : Ev rNat ta σ F H k) (ha : Ev (rLst rNat) tb σ F H ns) : Ev rBl (tOp (rIn K neg) ta tb) σ F H (if neg then !decide (k ∈ ns) else decide (k ∈ ns)) := fun F1 H1 g1 Q q =>
  hk F1 H1 g1 _ fun v F2 H2 g2 r => ha F2 H2 (g1.trans g2) _ fun w F3 H3 g3 ⟨p, vs, e, hp, pr⟩ => by
    cases (show v = _ from r)
    have ev := nats_eq pr
    subst ev
    refine ⟨p, _, e, .inl (SqL.of (g3.fh _ _ hp)), rfl, flat_nats ns, ?_⟩
    rw [inV_nats]
    exact q _ F3 H3 (g2.trans g3) rfl
theorem ev_inT {neg : Bool} (hk : Ev rNat ta σ F H k) (ha : Ev (rTup rNat) tb σ F H ns) : Ev rBl (tOp (rIn K neg) ta tb) σ F H (if neg then !decide (k ∈ ns) else decide (k ∈ ns)) := fun F1 H1 g1 Q q =>
  hk F1 H1 g1 _ fun v F2 H2 g2 r => ha F2 H2 (g1.trans g2) _ fun w F3 H3 g3 ⟨p, vs, e, hp, pr⟩ => by
    cases (show v = _ from r)
    have ev := nats_eq pr
    subst ev
    refine ⟨p, _, e, .inr (SqT.of (g3.fh _ _ hp)), rfl, flat_nats ns, ?_⟩
    rw [inV_nats]
    exact q _ F3 H3 (g2.trans g3) rfl
theorem ev_sortM (ha : Ev rRef ta σ F H l) (hl : H l = some (.lst (ns.map fun n : Nat => V.int (n : Int)))) (hz : ns.length < 64) : Ev (rLst rNat) (tCB (rSorted K) (tCons ta tNil)) σ F H (sortN ns) := fun F1 H1 g1 Q q =>
  ha F1 H1 g1 _ fun v F2 H2 g2 r => ⟨l, ns.map fun n : Nat => (n : Int), by rw [show v = _ from r], SqL.of (by rw [List.map_map]; exact g2.hx _ _ (g1.hx _ _ hl)), by rw [List.length_map]; exact hz, fun ys p hp hs hn => by
    rw [sorted_ints hp hs, List.map_map]
    exact q _ _ _ (g2.trans (.new g2.fh hn)) ⟨p, _, rfl, upd_same, nats_P _ _⟩⟩
/-- xs[i], of a list of numbers that may change -/
theorem ev_ixN {n : Nat} (ha : Ev rRef ta σ F H l) (hb : Ev rInt tb σ F H (k : Int)) (hl : H l = some (.lst (ns.map fun n : Nat => V.int (n : Int)))) (h : ns[k]? = some n) : Ev rNat (tOp (rIxL K) ta tb) σ F H n :=
  ev_ixM ha hb hl (atI_natL (by rw [List.getElem?_map, h]; rfl)) (show rNat F (V.int (n : Int)) n from rfl)
/-- t[n:], n not 0 -/
theorem ev_slT1 {n : Nat} (h : Ev (rTup R) te σ F H xs) (h0 : 1 ≤ n) (h1 : 1 ≤ xs.length) (m : Mn R := by infer_instance) : Ev (rTup R) (tSl (rSlT K) te (tPart (tC (.int (n : Int)))) tNoPart) σ F H (xs.drop n) := fun F1 H1 g1 Q q =>
  h F1 H1 g1 _ fun v F2 H2 g2 ⟨a, vs, e, hl, p⟩ => ⟨(n : Int), rfl, a, vs, e, SqT.of (g2.fh _ _ hl), fun z => by
    have := p.length
    rw [HT.sIx_nat] at z
    omega, fun B hB => by
    have g5 : Gr M0 F2 H2 (upd F2 B (.tup (cutV vs (some (n : Int)) none))) (upd H2 B (.tup (cutV vs (some (n : Int)) none))) := .new g2.fh hB
    refine q _ _ _ (g2.trans g5) ⟨B, _, rfl, upd_same, ?_⟩
    rw [← cut_from]
    exact Paired.up g5.ff (cut_paired p)⟩
/-- x = [e] * n, a list that may change -/
theorem x_repM {n a : Nat} (e : ExT F H) (h : Ev R te σ F H x) (hb : Ev rInt tb σ F H (n : Int)) (hn : n ≤ 1000000) (k : ∀ v l F' H', Gr M0 F H F' H' → R F' v x → H' l = none → D.nx (σ.set a (some (.ref l))) (upd H' l (.lst (List.replicate n v)))) (m : Mn R := by infer_instance) :
    tAsg (tOp rRep (tLst (tCons te tNil)) tb) (gName a) D σ H :=
  h F H (.refl e) _ fun v F1 H1 g1 r1 => ⟨by show 1 ≤ sizeLine; decide, fun c hc => by
    have g2 : Gr M0 F1 H1 (upd F1 c (.lst [v])) (upd H1 c (.lst [v])) := .new g1.fh hc
    refine hb _ _ (g1.trans g2) _ fun w F3 H3 g3 e2 => ?_
    refine ⟨c, (n : Int), [v], rfl, e2, g3.hx _ _ upd_same, by omega, by omega, by show 1 * ((n : Int)).toNat ≤ sizeLine; rw [sizeLine_eq]; omega, fun l hl => ?_⟩
    have er : (List.replicate ((n : Int)).toNat [v]).flatten = List.replicate n v := by
      rw [Int.toNat_natCast]
      exact flat_one v n
    rw [er]
    exact k v l F3 H3 (g1.trans (g2.trans g3)) (m.mono (g2.ff.trans g3.ff) r1) hl⟩
/-! comprehensions -/
/-- [elt for i, x in enumerate(list) if test] -/
theorem ev_lcEF (p : Nat → Bool) (f : Nat → γ) {a b : Nat} {ws : List Nat} (h : Ev (rLst R) tl σ F H xs) (hz : xs.length ≤ 1000000) (hw : ∀ v w, wipe (((wipe σ ws).set a (some v)).set b (some w)) ws = wipe σ ws)
    (ht : ∀ (i : Nat) x w F1 H1, xs[i]? = some x → Gr M0 F H F1 H1 → R F1 w x → EvT tt (((wipe σ ws).set a (some (.int (i : Int)))).set b (some w)) F1 H1 (p i))
    (he : ∀ (i : Nat) x w F1 H1, xs[i]? = some x → p i = true → Gr M0 F H F1 H1 → R F1 w x → Ev T te (((wipe σ ws).set a (some (.int (i : Int)))).set b (some w)) F1 H1 (f i)) (m : Mn R := by infer_instance) (m' : Mn T := by infer_instance) :
    Ev (rLst T) (tLc (iEnum K (tCons tl tNil)) (gTup K 2 (gCons (gName a) (gCons (gName b) gNil))) tt te ws) σ F H (((List.range xs.length).filter p).map f) := by
  intro F1 H1 g1 Q q
  refine h F1 H1 g1 _ fun v F2 H2 g2 ⟨c, vs, ea, hl, pr⟩ => ⟨c, vs, by rw [ea], SqL.of (g2.fh _ _ hl), fun D hD => ?_⟩
  have hlen := pr.length
  refine lc_it walk_enum (fun i H' => ∃ F' us, Gr M0 F2 H2 F' H' ∧ F' D = none ∧ H' D = some (.lst us) ∧ Paired (T F') us ((((List.range xs.length).take i).filter p).map f)) ⟨F2, [], .loc g2.fh hD, g2.fh.free hD, upd_same, .nil⟩ (fun i H' _ ⟨F', us, g, _⟩ => SqL.of (g.fh _ _ (g.ff _ _ hl))) ?_ ?_
  · rintro i w H' H4 hi ⟨F', us, g, fD, hD', pu⟩ ⟨B, u1, u2, rfl, hT, rfl, h1, h2⟩
    obtain ⟨x, hx, rx⟩ := Paired.getL pr h2
    have hu1 : u1 = V.int (i : Int) := by cases h1; rfl
    subst hu1
    have hr : (List.range xs.length)[i]? = some i := List.getElem?_range (by omega)
    have gB : Gr M0 F' H' (upd F' B (.tup [.int (i : Int), u2])) (upd H' B (.tup [.int (i : Int), u2])) := .new g.fh hT
    refine ⟨B, [.int (i : Int), u2], rfl, SqT.of upd_same, rfl, _, [u2], rfl, u2, [], rfl, rfl, hw _ _, ?_⟩
    have rx' := m.mono (g.ff.trans gB.ff) rx
    refine ht i x u2 _ _ hx (((g1.trans g2).trans g).trans gB) rx' _ _ (.refl gB.fh) _ fun F3 H3 g3 => ?_
    have e3 := take_filter_succ (p := p) (f := f) hr
    have g03 := gB.trans g3
    cases hp : p i with
    | false =>
      rw [hp] at e3
      refine ⟨F3, us, g.trans g03, g03.nn hD' fD, g03.hx _ _ hD', ?_⟩
      rw [e3]
      exact Paired.up g03.ff pu
    | true =>
      rw [hp] at e3
      refine he i x u2 F3 H3 hx hp (((g1.trans g2).trans g).trans g03) (m.mono g3.ff rx') F3 H3 (.refl g3.fh) _ fun u F4 H4 g4 r4 => ?_
      have g34 := g03.trans g4
      refine ⟨us, g34.hx _ _ hD', ?_, F4, us ++ [u], (g.trans g34).set' (g34.nn hD' fD) (.inl hD), g34.nn hD' fD, upd_same, ?_⟩
      · rw [pu.length, List.length_map, sizeLine_eq]
        have := List.length_filter_le p ((List.range xs.length).take i)
        rw [List.length_take, List.length_range] at this
        omega
      · rw [e3]
        exact (Paired.up (g03.ff.trans g4.ff) pu).snoc r4
  · rintro H' ⟨F', us, g, fD, hD', pu⟩
    rw [List.take_of_length_le (by rw [List.length_range, hlen]; exact Nat.le_refl _)] at pu
    exact q _ _ _ (g2.trans (g.frz hD' (g2.fh.free hD) (.inl hD))) ⟨D, us, rfl, upd_same, Paired.up (g.fh.frz hD' fD) pu⟩
/-- a list or a tuple -/
def rSq (t : Bool) (R : Rp α) : Rp (List α) := match t with
  | true => rTup R
  | false => rLst R
instance {t : Bool} [Mn R] : Mn (rSq t R) := by cases t <;> (unfold rSq; infer_instance)
theorem rSq_at {t : Bool} {F H : Hp} {v : V} (h : rSq t R F v xs) (e : ExT F H) : ∃ a vs, v = .ref a ∧ (∀ F' H', Ex F F' → ExT F' H' → SqX t K H' a vs) ∧ Paired (R F) vs xs := by
  cases t with
  | true => obtain ⟨a, vs, h1, h2, h3⟩ := h; exact ⟨a, vs, h1, fun F' H' e1 e2 => SqT.of (e2 _ _ (e1 _ _ h2)), h3⟩
  | false => obtain ⟨a, vs, h1, h2, h3⟩ := h; exact ⟨a, vs, h1, fun F' H' e1 e2 => SqL.of (e2 _ _ (e1 _ _ h2)), h3⟩
/-- [elt for x, y in zip(xs, ys) if test] -/
theorem ev_lcXF (t1 t2 : Bool) (p : α × β → Bool) (f : α × β → γ) {a b : Nat} {ws : List Nat} (ha : Ev (rSq t1 R) ta σ F H xs) (hb : Ev (rSq t2 S) tb σ F H ys) (hz : xs.length ≤ 1000000) (hw : ∀ v w, wipe (((wipe σ ws).set a (some v)).set b (some w)) ws = wipe σ ws)
    (ht : ∀ (n : Nat) q v w F1 H1, (xs.zip ys)[n]? = some q → Gr M0 F H F1 H1 → R F1 v q.1 → S F1 w q.2 → EvT tt (((wipe σ ws).set a (some v)).set b (some w)) F1 H1 (p q))
    (he : ∀ (n : Nat) q v w F1 H1, (xs.zip ys)[n]? = some q → p q = true → Gr M0 F H F1 H1 → R F1 v q.1 → S F1 w q.2 → Ev T te (((wipe σ ws).set a (some v)).set b (some w)) F1 H1 (f q)) (m : Mn R := by infer_instance) (m2 : Mn S := by infer_instance) (m' : Mn T := by infer_instance) :
    Ev (rLst T) (tLc (iZipX t1 t2 K (tCons ta (tCons tb tNil))) (gTup K 2 (gCons (gName a) (gCons (gName b) gNil))) tt te ws) σ F H (((xs.zip ys).filter p).map f) := by
  intro F1 H1 g1 Q q
  refine ha F1 H1 g1 _ fun v F2 H2 g2 rv => hb F2 H2 (g1.trans g2) _ fun v2 F3 H3 g3 rw_ => ?_
  obtain ⟨c, us1, rfl, sq1, pr1⟩ := rSq_at (K := K) (Mn.mono g3.ff rv) g3.fh
  obtain ⟨d, us2, rfl, sq2, pr2⟩ := rSq_at (K := K) rw_ g3.fh
  refine ⟨c, d, us1, us2, rfl, sq1 _ _ (Ex.refl _) g3.fh, sq2 _ _ (Ex.refl _) g3.fh, fun D hD => ?_⟩
  have hlen : (xs.zip ys).length = min us1.length us2.length := by rw [List.length_zip, pr1.length, pr2.length]
  refine lc_it (walk_zx hlen) (fun i H' => ∃ F' us, Gr M0 F3 H3 F' H' ∧ F' D = none ∧ H' D = some (.lst us) ∧ Paired (T F') us ((((xs.zip ys).take i).filter p).map f)) ⟨F3, [], .loc g3.fh hD, g3.fh.free hD, upd_same, .nil⟩ (fun i H' _ ⟨F', us, g, _⟩ => ⟨sq1 _ _ g.ff g.fh, sq2 _ _ g.ff g.fh⟩) ?_ ?_
  · rintro n w H' H4 hi ⟨F', us, g, fD, hD', pu⟩ ⟨B, u1, u2, rfl, hT, rfl, h1, h2⟩
    obtain ⟨x, hx, rx⟩ := Paired.getL pr1 h1
    obtain ⟨y, hy, ry⟩ := Paired.getL pr2 h2
    have hq : (xs.zip ys)[n]? = some (x, y) := List.getElem?_zip_eq_some.mpr ⟨hx, hy⟩
    have gB : Gr M0 F' H' (upd F' B (.tup [u1, u2])) (upd H' B (.tup [u1, u2])) := .new g.fh hT
    refine ⟨B, [u1, u2], rfl, SqT.of upd_same, rfl, u1, [u2], rfl, u2, [], rfl, rfl, hw _ _, ?_⟩
    have rx' := m.mono (g.ff.trans gB.ff) rx
    have ry' := m2.mono (g.ff.trans gB.ff) ry
    refine ht n (x, y) u1 u2 _ _ hq ((((g1.trans g2).trans g3).trans g).trans gB) rx' ry' _ _ (.refl gB.fh) _ fun F5 H5 g5 => ?_
    have e3 := take_filter_succ (p := p) (f := f) hq
    have g05 := gB.trans g5
    cases hp : p (x, y) with
    | false =>
      rw [hp] at e3
      refine ⟨F5, us, g.trans g05, g05.nn hD' fD, g05.hx _ _ hD', ?_⟩
      rw [e3]
      exact Paired.up g05.ff pu
    | true =>
      rw [hp] at e3
      refine he n (x, y) u1 u2 F5 H5 hq hp ((((g1.trans g2).trans g3).trans g).trans g05) (m.mono g5.ff rx') (m2.mono g5.ff ry') F5 H5 (.refl g5.fh) _ fun u F6 H6 g6 r6 => ?_
      have g56 := g05.trans g6
      refine ⟨us, g56.hx _ _ hD', ?_, F6, us ++ [u], (g.trans g56).set' (g56.nn hD' fD) (.inl hD), g56.nn hD' fD, upd_same, ?_⟩
      · rw [pu.length, List.length_map, sizeLine_eq]
        have := List.length_filter_le p ((xs.zip ys).take n)
        rw [List.length_take, List.length_zip] at this
        omega
      · rw [e3]
        exact (Paired.up (g05.ff.trans g6.ff) pu).snoc r6
  · rintro H' ⟨F', us, g, fD, hD', pu⟩
    rw [List.take_length] at pu
    exact q _ _ _ ((g2.trans g3).trans (g.frz hD' (g3.fh.free hD) (.inl hD))) ⟨D, us, rfl, upd_same, Paired.up (g.fh.frz hD' fD) pu⟩
/-- for x, y in zip(xs, ys) -/
theorem x_forX (t1 t2 : Bool) {a b : Nat} (e : ExT F H) (ha : Ev (rSq t1 R) ta σ F H xs) (hb : Ev (rSq t2 S) tb σ F H ys) (Pv : Nat → St → Hp → Hp → Prop) (h0 : ∀ F1 H1, Gr M0 F H F1 H1 → Pv 0 σ F1 H1)
    (hst : ∀ n σ' F' H' F2 H2, Gr M0 F' H' F2 H2 → Pv n σ' F' H' → Pv n σ' F2 H2)
    (hs : ∀ F1, Ex F F1 → ∀ n q v w σ' F' H', (xs.zip ys)[n]? = some q → Ex F1 F' → ExT F' H' → R F' v q.1 → S F' w q.2 → Pv n σ' F' H' →
      ts { D with nx := fun σ2 H2 => ∃ F2, Ex F1 F2 ∧ ExT F2 H2 ∧ Pv (n + 1) σ2 F2 H2, ct := fun σ2 H2 => ∃ F2, Ex F1 F2 ∧ ExT F2 H2 ∧ Pv (n + 1) σ2 F2 H2, bk := D.nx } ((σ'.set a (some v)).set b (some w)) H')
    (hd : ∀ σ' F' H', Ex F F' → ExT F' H' → Pv (xs.zip ys).length σ' F' H' → D.nx σ' H') (m : Mn R := by infer_instance) (m2 : Mn S := by infer_instance) : tFor (iZipX t1 t2 K (tCons ta (tCons tb tNil))) (gTup K 2 (gCons (gName a) (gCons (gName b) gNil))) ts D σ H := by
  refine ha F H (.refl e) _ fun v F2 H2 g2 rv => hb F2 H2 g2 _ fun v2 F3 H3 g3 rw_ => ?_
  obtain ⟨c, us1, rfl, sq1, pr1⟩ := rSq_at (K := K) (Mn.mono g3.ff rv) g3.fh
  obtain ⟨d, us2, rfl, sq2, pr2⟩ := rSq_at (K := K) rw_ g3.fh
  refine ⟨c, d, us1, us2, rfl, sq1 _ _ (Ex.refl _) g3.fh, sq2 _ _ (Ex.refl _) g3.fh, ?_⟩
  have hlen : (xs.zip ys).length = min us1.length us2.length := by rw [List.length_zip, pr1.length, pr2.length]
  refine for_it (walk_zx hlen) (fun i σ' H' => ∃ F', Ex F3 F' ∧ ExT F' H' ∧ Pv i σ' F' H') ⟨F3, Ex.refl _, g3.fh, h0 F3 H3 (g2.trans g3)⟩ (fun i σ' H' _ ⟨F', e1, e2, _⟩ => ⟨sq1 _ _ e1 e2, sq2 _ _ e1 e2⟩) ?_ ?_
  · rintro n w σ' H' H4 hi ⟨F', e1, e2, pv⟩ ⟨B, u1, u2, rfl, hT, rfl, h1, h2⟩
    obtain ⟨x, hx, rx⟩ := Paired.getL pr1 h1
    obtain ⟨y, hy, ry⟩ := Paired.getL pr2 h2
    have hq : (xs.zip ys)[n]? = some (x, y) := List.getElem?_zip_eq_some.mpr ⟨hx, hy⟩
    have gB : Gr M0 F' H' (upd F' B (.tup [u1, u2])) (upd H' B (.tup [u1, u2])) := .new e2 hT
    exact ⟨B, [u1, u2], rfl, SqT.of upd_same, rfl, u1, [u2], rfl, u2, [], rfl, rfl, hs F3 (g2.ff.trans g3.ff) n (x, y) u1 u2 σ' _ _ hq (e1.trans gB.ff) gB.fh (m.mono (e1.trans gB.ff) rx) (m2.mono (e1.trans gB.ff) ry) (hst _ _ _ _ _ _ gB pv)⟩
  · rintro σ' H' ⟨F', e1, e2, pv⟩
    exact hd σ' F' H' ((g2.ff.trans g3.ff).trans e1) e2 pv
/-- x = [elt for k in range(n)], a list that may change -/
theorem x_lcRM {n j q : Nat} {ws : List Nat} {zs : List γ} (e : ExT F H) (h : Ev rInt ta σ F H (n : Int)) (hlen : zs.length = n) (hz : n ≤ 1000000) (hw : ∀ v, wipe ((wipe σ ws).set j (some v)) ws = wipe σ ws)
    (he : ∀ i y F1 H1, i < n → zs[i]? = some y → Gr M0 F H F1 H1 → Ev T te ((wipe σ ws).set j (some (.int (i : Int)))) F1 H1 y)
    (k : ∀ l us F' H', Gr M0 F H F' H' → H l = none → F' l = none → H' l = some (.lst us) → Paired (T F') us zs → D.nx (σ.set q (some (.ref l))) H') (m' : Mn T := by infer_instance) : tAsg (tLc (iRng1 (tCons ta tNil)) (gName j) tYes te ws) (gName q) D σ H := by
  refine h F H (.refl e) _ fun v F2 H2 g2 ea => ⟨(n : Int), by rw [show v = _ from ea], by omega, by omega, fun B hD => ?_⟩
  rw [Int.toNat_natCast]
  refine lc_range (lo := 0) (n := n) (fun i H' => ∃ F' us, Gr M0 F2 H2 F' H' ∧ F' B = none ∧ H' B = some (.lst us) ∧ Paired (T F') us (zs.take i)) ⟨F2, [], .loc g2.fh hD, g2.fh.free hD, upd_same, .nil⟩ ?_ ?_
  · rintro i H' hi ⟨F', us, g, fD, hD', pu⟩
    have hil : i < zs.length := by rw [hlen]; exact hi
    have hy : zs[i]? = some zs[i] := List.getElem?_eq_getElem hil
    have e0 : (0 : Int) + (i : Int) = (i : Int) := Int.zero_add _
    rw [e0]
    refine ⟨hw _, ?_⟩
    refine he i zs[i] F' H' hi hy (g2.trans g) F' H' (.refl g.fh) _ fun u F3 H3 g3 r3 => ?_
    refine ⟨us, g3.hx _ _ hD', ?_, F3, us ++ [u], (g.trans g3).set' (g3.nn hD' fD) (.inl hD), g3.nn hD' fD, upd_same, ?_⟩
    · rw [pu.length, List.length_take, sizeLine_eq]
      omega
    · rw [List.take_add_one, hy]
      exact (Paired.up g3.ff pu).snoc r3
  · rintro H' ⟨F', us, g, fD, hD', pu⟩
    rw [← hlen, List.take_length] at pu
    exact k B us F' H' (g2.trans g) (Gr.free g2 hD) fD hD' pu
end
/-! ### walks -/
structure Wlk where
  whole : Nat
  rows : List (List Nat)
  h0 : 1 ≤ whole
  h1 : whole ≤ 1000000
  h2 : 1 ≤ rows.length
  h3 : rows.length ≤ 32
  h4 : ∀ r ∈ rows, r.length = rows.length ∧ r.sum = whole
def Wlk.P (W : Wlk) (a b : Nat) : Nat := (W.rows.getD a []).getD b 0
theorem Wlk.row (W : Wlk) {a : Nat} (ha : a < W.rows.length) : (W.rows.getD a []).length = W.rows.length ∧ (W.rows.getD a []).sum = W.whole := W.h4 _ (List.mem_of_getElem? (at_getD ha))
theorem Wlk.chain (W : Wlk) : Chain W.rows.length W.P W.whole := ⟨W.h0, fun a ha => by
  obtain ⟨h1, h2⟩ := W.row ha
  rw [← h2, ← sumQ_list, h1]
  rfl⟩
theorem Wlk.le (W : Wlk) {a b : Nat} (ha : a < W.rows.length) (hb : b < W.rows.length) : W.P a b ≤ W.whole := by
  obtain ⟨h1, h2⟩ := W.row ha
  rw [← h2]
  exact sum_ge (List.mem_of_getElem? (at_getD (by rw [h1]; exact hb)))
def rWalk (C : Addr) : Rp Wlk := fun H v W => ∃ a dx l, v = .ref a ∧ H a = some (.ins C dx [("whole", .int (W.whole : Int)), ("rows", l)]) ∧ rLst (rLst rNat) H l W.rows
instance {C : Addr} : Mn (rWalk C) := ⟨fun e ⟨a, dx, l, h1, h2, h3⟩ => ⟨a, dx, l, h1, e _ _ h2, Mn.mono e h3⟩⟩
instance {C : Addr} : NotN (rWalk C) := ⟨fun ⟨_, _, _, h, _⟩ e => by rw [h] at e; cases e⟩
instance {C : Addr} : IsI (rWalk C) C "__len__" := ⟨fun ⟨a, dx, l, h1, h2, h3⟩ => ⟨a, dx, _, h1, h2, rfl⟩⟩
instance {C : Addr} : IsI (rWalk C) C "share" := ⟨fun ⟨a, dx, l, h1, h2, h3⟩ => ⟨a, dx, _, h1, h2, rfl⟩⟩
theorem fld_wwhole {K : PySem.W.Frag} {C : Addr} (c : Cls K C) (n : NoAttr K C "whole") : IsF (rWalk C) K "whole" rNat Wlk.whole := ⟨fun ⟨a, dx, l, h1, h2, h3⟩ => ⟨a, C, dx, _, _, h1, h2, c, n, rfl, rfl⟩⟩
theorem fld_wrows {K : PySem.W.Frag} {C : Addr} (c : Cls K C) (n : NoAttr K C "rows") : IsF (rWalk C) K "rows" (rLst (rLst rNat)) Wlk.rows := ⟨fun ⟨a, dx, l, h1, h2, h3⟩ => ⟨a, C, dx, _, _, h1, h2, c, n, rfl, h3⟩⟩
def SpWalk (C : Addr) : Sp := fun vs H Q _ => ∃ (F : Hp) (a dx : Addr) (l : V) (W : Wlk), vs = [.ref a, .int (W.whole : Int), l] ∧ ExT F H ∧ F a = none ∧ H a = some (.ins C dx []) ∧ rLst (rLst rNat) F l W.rows ∧
  ∀ F' H', Gr (M1 a) F H F' H' → rWalk C F' (.ref a) W → Q .non H'
instance {C : Addr} : SpLen (SpWalk C) 3 := ⟨fun ⟨_, _, _, _, _, h, _⟩ => by rw [h]; rfl⟩
theorem ev_Walk {σ : St} {F H : Hp} {ta tb : TE} {C : Addr} {W : Wlk} {E : XK} (ha : Ev rInt ta σ F H (W.whole : Int)) (hb : Ev (rLst (rLst rNat)) tb σ F H W.rows) : Ev (rWalk C) (tMake C (SpWalk C) [] E (tCons ta (tCons tb tNil))) σ F H W := fun F1 H1 g1 Q q =>
  ha F1 H1 g1 _ fun v F2 H2 g2 r => hb F2 H2 (g1.trans g2) _ fun w F3 H3 g3 r3 => fun x dx nx ndx nex => by
    cases (show v = _ from r)
    have e1 : ExT F3 (upd (upd H3 dx (.own x)) x (.ins C dx [])) := g3.fh.make nx ndx nex.symm
    exact ⟨F3, x, dx, w, W, rfl, e1, g3.fh.free nx, upd_same, r3, fun F' H' g k => ⟨rfl, q _ F' H' ((g2.trans g3).trans (.made (M := M0) nx ndx nex.symm g)) k⟩⟩
/-- the walk as which turns go -/
def cntM (ms : List (List Nat)) (p q : Nat) : Nat := (ms.filter fun m => decide (m.getD p 0 = q)).length
def walkRows (t : Tn) : List (List Nat) := (List.range t.many).map fun p => (List.range t.many).map fun q => cntM t.maps p q
theorem cnt_sum {n p : Nat} : ∀ {ms : List (List Nat)}, (∀ m ∈ ms, m.getD p 0 < n) → ((List.range n).map fun q => cntM ms p q).sum = ms.length
  | [], _ => by
    have : ∀ l : List Nat, (l.map fun q => cntM [] p q).sum = 0 := fun l => by
      induction l with
      | nil => rfl
      | cons a l ih => rw [List.map_cons, List.sum_cons, ih]; rfl
    exact this _
  | m :: ms, h => by
    have ih := cnt_sum (n := n) (p := p) (ms := ms) fun m' hm' => h m' (List.mem_cons_of_mem _ hm')
    have hm := h m List.mem_cons_self
    have e : ∀ q, cntM (m :: ms) p q = (if m.getD p 0 = q then 1 else 0) + cntM ms p q := fun q => by
      unfold cntM
      rw [List.filter_cons]
      by_cases z : m.getD p 0 = q
      · rw [if_pos (decide_eq_true z), if_pos z, List.length_cons]; omega
      · rw [if_neg (by rw [decide_eq_false z]; exact Bool.false_ne_true), if_neg z]; omega
    have s : ∀ (l : List Nat) (f g : Nat → Nat), (l.map fun q => f q + g q).sum = (l.map f).sum + (l.map g).sum := fun l f g => by
      induction l with
      | nil => rfl
      | cons a l ih => rw [List.map_cons, List.map_cons, List.map_cons, List.sum_cons, List.sum_cons, List.sum_cons, ih]; omega
    have one : ∀ (k c : Nat), c < k → ((List.range k).map fun q => if c = q then 1 else 0).sum = 1 := fun k c hc => by
      induction k with
      | zero => omega
      | succ k ih =>
        rw [List.range_succ, List.map_append, List.sum_append, List.map_cons, List.map_nil, List.sum_cons, List.sum_nil]
        by_cases z : c = k
        · have z0 : ∀ j, j ≤ k → ((List.range j).map fun q => if c = q then 1 else 0).sum = 0 := fun j hj => by
            induction j with
            | zero => rfl
            | succ j ih2 =>
              rw [List.range_succ, List.map_append, List.sum_append, ih2 (by omega), List.map_cons, List.map_nil, List.sum_cons, List.sum_nil, if_neg (by omega)]
              rfl
          rw [z0 k (Nat.le_refl _), if_pos z]
          rfl
        · rw [ih (by omega), if_neg z]
          rfl
    rw [List.map_congr_left fun q _ => e q, s, ih, one n _ hm, List.length_cons]
    omega
def walkM (t : Tn) : Wlk where
  whole := t.maps.length
  rows := walkRows t
  h0 := t.h2
  h1 := Nat.le_trans t.h3 (by decide)
  h2 := by unfold walkRows; rw [List.length_map, List.length_range]; exact t.h0
  h3 := by unfold walkRows; rw [List.length_map, List.length_range]; exact t.h1
  h4 := fun r hr => by
    unfold walkRows at hr ⊢
    obtain ⟨p, hp, rfl⟩ := List.mem_map.mp hr
    have hp := List.mem_range.mp hp
    refine ⟨by rw [List.length_map, List.length_range, List.length_map, List.length_range], cnt_sum fun m hm => ?_⟩
    obtain ⟨h1, h2⟩ := t.h4 m hm
    exact h2 _ (List.mem_of_getElem? (at_getD (by rw [h1]; exact hp)))
theorem walk_n (t : Tn) : (walkM t).rows.length = t.many := by show (walkRows t).length = _; unfold walkRows; rw [List.length_map, List.length_range]
theorem walk_P (t : Tn) {p q : Nat} (hp : p < t.many) (hq : q < t.many) : (walkM t).P p q = cntM t.maps p q := by
  show ((walkRows t).getD p []).getD q 0 = _
  unfold walkRows
  rw [getD_range hp, getD_range hq]
/-- what is found by looking on is all that is come to -/
theorem found_reach {n : Nat} {P : Nat → Nat → Nat} {p : Nat} {xs : List Nat} (hp : p < n) (nd : xs.Nodup) (h0 : p ∈ xs) (h1 : ∀ x ∈ xs, Rch (stepC n P) p x) (h2 : ∀ x ∈ xs, ∀ t, t < n → 0 < P x t → t ∈ xs) : sortN xs = reachC n P p := by
  have all : ∀ q, Rch (stepC n P) p q → q ∈ xs := fun q h => by
    induction h with
    | refl => exact h0
    | step _ e ih => exact h2 _ ih _ e.1 e.2
  have hs : (reachC n P p).Pairwise (· ≤ ·) := by
    unfold reachC
    refine List.Pairwise.filter _ ?_
    exact List.pairwise_le_range
  have hnd : (reachC n P p).Nodup := by unfold reachC; exact List.nodup_range.filter _
  refine sorted_eq ((sort_perm xs).trans ((List.perm_ext_iff_of_nodup nd hnd).mpr fun q => ?_)) (sort_sorted xs) hs
  rw [mem_reach hp]
  exact ⟨fun h => h1 q h, fun h => all q h⟩
noncomputable def reachW (W : Wlk) (p : Nat) : List Nat := reachC W.rows.length W.P p
noncomputable def closedW (W : Wlk) : List (List Nat) := closedC W.rows.length W.P
noncomputable def restWk (W : Wlk) : List Rat := restW W.rows.length W.P W.whole ((closedW W).headD [])
/-- the shares laid into the row, one behind another -/
theorem spread_take {C : List Nat} {n k : Nat} (v : Nat → Rat) (nd : C.Nodup) (hk : k < C.length) (hC : ∀ a ∈ C, a < n) :
    ((List.range n).map fun a => sumQ k fun j => if C.getD j 0 = a then v j else 0).set (C.getD k 0) (v k) = (List.range n).map fun a => sumQ (k + 1) fun j => if C.getD j 0 = a then v j else 0 := by
  have hm : C.getD k 0 < n := hC _ (List.mem_of_getElem? (at_getD hk))
  refine ext_getD 0 (by rw [List.length_set, List.length_map, List.length_map]) fun a ha => ?_
  rw [List.length_set, List.length_map, List.length_range] at ha
  rw [getD_range ha]
  show _ = (sumQ k fun j => if C.getD j 0 = a then v j else 0) + (if C.getD k 0 = a then v k else 0)
  by_cases z : C.getD k 0 = a
  · rw [if_pos z, z, getD_eq (by rw [List.getElem?_set_self (by rw [List.length_map, List.length_range]; omega)]), sumQ_zero fun j hj => if_neg fun z2 => ?_]
    · exact (Rat.zero_add _).symm
    · have h1 := at_getD (d := 0) (show j < C.length by omega)
      have h2 := at_getD (d := 0) hk
      rw [z2, ← z] at h1
      have := (List.getElem?_inj (by omega) nd).mp (h1.trans h2.symm)
      omega
  · rw [if_neg z, List.getD_eq_getElem?_getD, List.getElem?_set_ne z, ← List.getD_eq_getElem?_getD, getD_range ha]
    exact (Rat.add_zero _).symm
theorem rest_big {c : Nat} (h : c ≤ 32) : c ^ c * 1000000 ^ c ≤ 2 ^ 800 := by
  have h1 : c ^ c ≤ 32 ^ 32 := Nat.le_trans (Nat.pow_le_pow_left h c) (Nat.pow_le_pow_right (by omega) h)
  have h2 : 1000000 ^ c ≤ (2 ^ 20) ^ 32 := Nat.le_trans (Nat.pow_le_pow_left (show 1000000 ≤ 2 ^ 20 by decide) c) (Nat.pow_le_pow_right (by decide) h)
  have h3 : 32 ^ 32 * (2 ^ 20) ^ 32 = 2 ^ 800 := by
    rw [show (32 : Nat) = 2 ^ 5 by decide, ← Nat.pow_mul, ← Nat.pow_mul, ← Nat.pow_add]
  exact Nat.le_trans (Nat.mul_le_mul h1 h2) (Nat.le_of_eq h3)
/-- shares of the resting row -/
theorem rest_over {W : Wlk} {C : List Nat} (hC : closedW W = [C]) : ∃ D : Int, D ≠ 0 ∧ D.natAbs < 2 ^ 4000 ∧ ∀ x ∈ restWk W, ∃ p : Int, x = Rat.divInt p D ∧ p.natAbs ≤ 2 ^ 800 := by
  have sv := rest_solv W.chain W.h3 W.h1 (fun a b ha hb => W.le ha hb) hC
  obtain ⟨m, hm, hCm, hmC, hall⟩ := closed_in (n := W.rows.length) (P := W.P) (C := C) (by rw [show closedC W.rows.length W.P = [C] from hC]; exact List.mem_singleton.mpr rfl)
  have hne : C ≠ [] := List.ne_nil_of_mem hmC
  have hlen : C.length ≤ W.rows.length := by
    rw [hCm]
    unfold reachC
    exact Nat.le_trans (List.length_filter_le _ _) (by rw [List.length_range]; exact Nat.le_refl _)
  have hlen2 := rest_len (P := W.P) (W := W.whole) hne
  have hnd : C.Nodup := by rw [hCm]; exact List.nodup_range.filter _
  have h3 := W.h3
  obtain ⟨D, hD, hD2, h⟩ := solR_over sv
  refine ⟨D, hD, hD2, fun x hx => ?_⟩
  unfold restWk at hx
  rw [hC] at hx
  unfold restW at hx
  obtain ⟨a, ha, rfl⟩ := List.mem_map.mp hx
  by_cases haC : a ∈ C
  · obtain ⟨j, hj⟩ := List.mem_iff_getElem?.mp haC
    have hjl := (List.getElem?_eq_some_iff.mp hj).1
    have ea : C.getD j 0 = a := getD_eq hj
    obtain ⟨p, h1, h2⟩ := h j 0 (by omega) (by omega)
    refine ⟨p, ?_, ?_⟩
    · show spread C (fun j => ((solR (restRows W.P W.whole C) (C.length + 1)).getD j []).getD 0 0) a = _
      rw [← ea]
      exact (spread_at hnd hjl _).trans h1
    · rw [hlen2] at h2
      exact Nat.le_trans h2 (rest_big (by omega))
  · refine ⟨0, ?_, Nat.zero_le _⟩
    rw [zero_div]
    exact spread_off haC _
theorem rest_sumOk {W : Wlk} {C : List Nat} (hC : closedW W = [C]) {xs : List Rat} (h : ∀ x ∈ xs, x ∈ restWk W) (hl : xs.length ≤ 32) : SumOk xs := by
  obtain ⟨D, h1, h2, h3⟩ := rest_over hC
  refine ⟨D, 2 ^ 800, ⟨h1, fun x hx => h3 x (h x hx)⟩, h2, ?_, by omega⟩
  have : xs.length * 2 ^ 800 ≤ 2 ^ 5 * 2 ^ 800 := Nat.mul_le_mul_right _ (show xs.length ≤ 2 ^ 5 by omega)
  rw [← Nat.pow_add] at this
  exact Nat.lt_of_le_of_lt this (Nat.pow_lt_pow_right (by omega) (by omega))
end El

set_option Elab.async false
set_option linter.all false
set_option maxRecDepth 100000
set_option maxHeartbeats 4000000
namespace El
open PySem PySem.Spec L2
variable [LawTabs]
section
variable {K : PySem.W.Frag} {σ : St} {F H F' H' : Hp} {ta tb tc td te tl : TE} {tr : TA} {tt : TT} {α β γ δ : Type} {R : Rp α} {S : Rp β} {T : Rp γ} {x : α} {y : β} {xs : List α} {ys : List β} {D : Ends} {ts : TS} {E : XK} {i j : Int} {a : Addr} {c c1 c2 N : Nat}
/-- lists whose items are drawn -/
def EvLS {α : Type} (a : Addr) (c : Nat) (R : Rp α) (ta : TA) (σ : St) (F H : Hp) (P : List α → Prop) : Prop :=
  ∀ F1 H1 N, Gr (M1 a) F H F1 H1 → F1 a = none → Src H1 a (N + c) → ∀ Q : List V → Hp → Prop, (∀ vs xs F2 H2, Gr (M1 a) F1 H1 F2 H2 → F2 a = none → Src H2 a N → P xs → Paired (R F2) vs xs → Q vs H2) → ta σ H1 Q
theorem els_nil : EvLS a 0 R tNil σ F H (fun l => l = []) := fun F1 H1 N g fa s Q q => q [] [] F1 H1 (.refl g.fh) fa s rfl .nil
theorem els_cons {P1 : α → Prop} {P2 : List α → Prop} (ha : EvS a c1 R ta σ F H P1) (hr : EvLS a c2 R tr σ F H P2) (m : Mn R := by infer_instance) : EvLS a (c1 + c2) R (tCons ta tr) σ F H (fun l => ∃ x xs, l = x :: xs ∧ P1 x ∧ P2 xs) := fun F1 H1 N g fa s Q q =>
  ha F1 H1 (N + c2) g fa (s.le (by omega)) _ fun v x F2 H2 g2 fa2 s2 p1 r1 => hr F2 H2 N (g.trans g2) fa2 s2 _ fun vs xs F3 H3 g3 fa3 s3 p2 r2 => q (v :: vs) (x :: xs) F3 H3 (g2.trans g3) fa3 s3 ⟨x, xs, rfl, p1, p2⟩ (.cons (m.mono g3.ff r1) r2)
theorem es_lst {P : List α → Prop} (h : EvLS a c R tr σ F H P) (hz : ∀ xs, P xs → xs.length ≤ sizeLine) (m : Mn R := by infer_instance) : EvS a c (rLst R) (tLst tr) σ F H P := fun F1 H1 N g fa s Q q =>
  h F1 H1 N g fa s _ fun vs xs F2 H2 g2 fa2 s2 p r => ⟨by rw [r.length]; exact hz xs p, fun B hB => by
    have g3 : Gr M0 F2 H2 (upd F2 B (.lst vs)) (upd H2 B (.lst vs)) := .new g2.fh hB
    obtain ⟨o, ho⟩ := s2.someO
    exact q _ xs _ _ (g2.trans g3.up) (g3.nn ho fa2) (s2.gr g3) p ⟨B, vs, rfl, upd_same, Paired.up g3.ff r⟩⟩
theorem x_forLS {n : Nat} {P : List α → Prop} (h : EvS a c (rLst R) tl σ F H P) (e : ExT F H) (fa : F a = none) (s : Src H a N) (hc : c ≤ N)
    (k : ∀ xs, P xs → ∀ F1 H1, Gr (M1 a) F H F1 H1 → F1 a = none → Src H1 a (N - c) → ∃ Pv : Nat → St → Hp → Hp → Prop, Pv 0 σ F1 H1 ∧
      (∀ i x v σ' F' H', xs[i]? = some x → Ex F1 F' → ExT F' H' → R F' v x → Pv i σ' F' H' →
        ts { D with nx := fun σ2 H2 => ∃ F2, Ex F1 F2 ∧ ExT F2 H2 ∧ Pv (i + 1) σ2 F2 H2, ct := fun σ2 H2 => ∃ F2, Ex F1 F2 ∧ ExT F2 H2 ∧ Pv (i + 1) σ2 F2 H2, bk := D.nx } (σ'.set n (some v)) H') ∧
      ∀ σ' F' H', Ex F1 F' → ExT F' H' → Pv xs.length σ' F' H' → D.nx σ' H') (m : Mn R := by infer_instance) : tFor (iList K tl) (gName n) ts D σ H := by
  refine h F H (N - c) (.refl e) fa (s.le (by omega)) _ fun v xs F1 H1 g1 fa1 s1 p ⟨b, vs, eb, hl, pr⟩ => ⟨b, eb, ⟨vs, SqL.of (g1.fh _ _ hl)⟩, ?_⟩
  obtain ⟨Pv, h0, hs, hd⟩ := k xs p F1 H1 g1 fa1 s1
  refine for_list (xs := vs) (fun i σ' H' => ∃ F', Ex F1 F' ∧ ExT F' H' ∧ Pv i σ' F' H') ⟨F1, Ex.refl _, g1.fh, h0⟩ (fun i σ' H' _ ⟨F', e1, e2, _⟩ => SqL.of (e2 _ _ (e1 _ _ hl))) ?_ ?_
  · rintro i w σ' H' hi ⟨F', e1, e2, pv⟩
    obtain ⟨x, hx, rx⟩ := Paired.getL pr hi
    exact hs i x w σ' F' H' hx e1 e2 (m.mono e1 rx) pv
  · rintro σ' H' ⟨F', e1, e2, pv⟩
    rw [pr.length] at pv
    exact hd σ' F' H' e1 e2 pv
theorem ets_or {t u : TT} {P1 P2 : Bool → Prop} (h1 : EvTS a c1 t σ F H P1) (h2 : EvTS a c2 u σ F H P2) : EvTS a (c1 + c2) (tOr t u) σ F H (fun b => (b = true ∧ P1 true) ∨ (P1 false ∧ P2 b)) := fun F1 H1 N g fa s Q q =>
  h1 F1 H1 (N + c2) g fa (s.le (by omega)) _ fun b F2 H2 g2 fa2 s2 p => by
    cases b with
    | false => exact h2 F2 H2 N (g.trans g2) fa2 s2 _ fun b F3 H3 g3 fa3 s3 p3 => q b F3 H3 (g2.trans g3) fa3 s3 (.inr ⟨p, p3⟩)
    | true => exact q true F2 H2 g2 fa2 (s2.le (by omega)) (.inl ⟨rfl, p⟩)
theorem ets_not {t : TT} {P1 : Bool → Prop} (h1 : EvTS a c1 t σ F H P1) : EvTS a c1 (tNot t) σ F H (fun b => P1 (!b)) := fun F1 H1 N g fa s Q q =>
  h1 F1 H1 N g fa s _ fun b F2 H2 g2 fa2 s2 p => q (!b) F2 H2 g2 fa2 s2 (by show P1 (!!b); rw [Bool.not_not]; exact p)
end
end El

set_option Elab.async false
set_option linter.all false
set_option maxRecDepth 100000
set_option maxHeartbeats 4000000
namespace El
open PySem PySem.Spec L2 PyProof.Rows
variable [LawTabs]
/-! ### a set made of a list of whole numbers -/
/-- an empty set, as it is made -/
abbrev nuS (w : World) : Obj := { cls := .type "set", dict := none, data := .set #[] 0 (.fresh 0 0 (!w.params.followText "set-order")) }
section
variable {P : Program} {w : World} {A : Around} {E : Value → Shared → Prop} {s : Shared}
theorem call_setL {l : Addr} {items : Array Value} (ns : List Int) {Q : Value → Shared → Prop} (hh : A.handled = none) (hl : s.heap.IsList l items) (hit : IntsAre items.toList ns) (hb : ns.length + 1 < scanBound)
    (h : ∀ (h' : Heap) (tk c : Nat), SetR w h' s.heap.objs.size (fun j => decide (j ∈ ns)) c → c ≤ ns.length → (∀ b o, s.heap.get? b = some o → h'.get? b = some o) → Q (.ref s.heap.objs.size) { s with heap := h', toks := tk }) :
    wpAny (model P w) A (call (.type "set") [.ref l]) Q E s := by
  have hisz : items.size = ns.length := (Array.length_toList (xs := items)).symm.trans (IntsAre.length hit)
  obtain ⟨_, _, hmro⟩ := F.called_set.mro
  have hmade := F.called_set.made
  have hsub := F.called_set.sub
  have n1 := F.called_set.notType
  have n2 := F.called_set.canCreate
  have n3 := F.typeCall_set_1 (.ref l)
  refine wpAny_call (codeAny_of_tree ?_)
  show wpAny _ _ (callAny (.type "set") _) _ _ _
  refine wpAny_pure ⟨Code.quiet_builtin _ (by decide +kernel), codeAny_builtin F.entry_type_call ?_⟩
  rw [Around.under_plain (weight_type_call_type "set" [.ref l] []) rfl]
  repeat (any_goals (first | assumption | wp_step))
  refine codeAny_mono (code_set_led1 (.ref l) (E := E) (Q₁ := fun v s1 => v = .ref s.heap.objs.size ∧ s1 = { s with heap := s.heap.push (nuS w) }) ⟨rfl, rfl⟩) fun r s1 hr => ?_
  cases r with
  | error e => exact hr
  | ok fl => cases fl with
    | ret v =>
      obtain ⟨rfl, rfl⟩ := hr
      have hS : (s.heap.push (nuS w)).get? s.heap.objs.size = some (nuS w) := Heap.get?_push_size _ rfl
      have hT : Shared.TypeIs { s with heap := s.heap.push (nuS w) } (.ref s.heap.objs.size) "set" := ⟨_, hS, rfl⟩
      have i1 := F.called_set.init.lookup
      have i2 := F.called_set.init.bind (.ref s.heap.objs.size)
      repeat (any_goals (first | assumption | wp_step))
      refine codeAny_mono (codeAny_call_builtin (R := wants (fun r s2 => r = .none ∧ ∃ h' tk c, s2 = { s with heap := h', toks := tk } ∧ SetR w h' s.heap.objs.size (fun j => decide (j ∈ ns)) c ∧ c ≤ ns.length ∧ ∀ b o, s.heap.get? b = some o → h'.get? b = some o) E)
        F.called_set.init.plain F.entry_set_init (check_set_init_1 hT ?_)) fun r s2 hr2 => ?_
      · obtain ⟨⟨_, dct, _, sl⟩, hol, hcl, nl, hdl⟩ := hl
        simp only at hcl hdl
        subst hcl; subst hdl
        have hol1 : (s.heap.push (nuS w)).get? l = some { cls := .type "list", dict := dct, data := .seq items nl, slots := sl } := Heap.get?_push_of_some _ hol
        have u1 := F.sub_list_set
        have u2 := F.sub_list_frozenset
        have u3 : (Value.type "list" == Value.type "dict") = false := by decide
        have hl1 : (s.heap.push (nuS w)).IsList l items := ⟨_, hol1, rfl, nl, rfl⟩
        have lS : l < s.heap.objs.size := Heap.lt_size hol
        have zS : (s.heap.push (nuS w)).objs.size = s.heap.objs.size + 1 := Heap.size_push ..
        unfold Builtin.«set.__init__» noKeywords Builtin.Frozenset.updateFrom
        generalize hPI : pyIter = PI
        wp_walk
        subst hPI
        refine wpAny_pyIter_list hl1 ?_
        refine wpAny_bind (wpAny_runValue ?_)
        have hh3 : A.in1.in1.in1.handled = none := by simp [hh]
        have ne1 : l ≠ (s.heap.push (nuS w)).objs.size := by rw [zS]; exact Nat.ne_of_lt (Nat.lt_succ_of_lt lS)
        have ne2 : s.heap.objs.size ∉ [(s.heap.push (nuS w)).objs.size, l] := by
          intro hm
          rcases List.mem_cons.mp hm with e | e
          · rw [zS] at e; exact Nat.ne_of_lt (Nat.lt_succ_self _) e
          · exact Nat.ne_of_gt lS (List.mem_singleton.mp e)
        have hval : ∀ (i : Nat) (v : Value), items[i]? = some v → ∃ k t, ns[i]? = some k ∧ v = .int k t := fun i v hv => by
          have hi : i < ns.length := by rw [← hisz]; exact (Array.getElem?_eq_some_iff.mp hv).1
          obtain ⟨t, e⟩ := IntsAre.int_at hit i v (by rw [Array.getElem?_toList]; exact hv)
          refine ⟨ns[i], t, List.getElem?_eq_getElem hi, ?_⟩
          rw [e, List.getD_eq_getElem?_getD, List.getElem?_eq_getElem hi] <;> rfl
        refine set_update_ints ((Walks.list hh3 _ l ne1 items).toS) s.heap.objs.size ne2 ns hisz hb hval (items.size - 0) 0 _ (by omega) (Nat.zero_le _)
          ⟨⟨_, Heap.get?_push_size _ rfl, rfl, rfl⟩, hl1.push _⟩ ⟨0, Nat.le_refl 0, setR_new_at (Heap.get?_push_of_some _ hS)⟩ fun s3 c hm hc hR => ?_
        obtain ⟨h3, g3, d3, tk3, os3⟩ := s3
        cases (show g3 = s.gens from hm.gens)
        cases (show d3 = s.drawn from hm.drawn)
        cases (show os3 = s.os from hm.os)
        show wpAny _ _ _ _ _ _
        refine wpAny_pure ?_
        show wpAny _ _ (ret Value.none) _ _ _
        rw [hisz] at hc
        refine wpAny_pure ⟨rfl, h3, tk3, c, rfl, hR, hc, fun b o e => ?_⟩
        have lb := Heap.lt_size e
        refine hm.heap b o (fun hmem => ?_) (Heap.get?_push_of_some _ (Heap.get?_push_of_some _ e))
        rcases List.mem_cons.mp hmem with z | z
        · exact Nat.ne_of_lt lb z
        · have z := List.mem_singleton.mp z
          rw [zS] at z
          exact Nat.ne_of_lt (Nat.lt_succ_of_lt lb) z
      · cases r with
        | error e => exact hr2
        | ok fl2 => cases fl2 with
          | ret r =>
            obtain ⟨rfl, h3, tk3, c, rfl, hR, hc, hk⟩ := hr2
            repeat (any_goals (first | assumption | wp_step))
            exact h _ _ _ hR hc hk
          | _ => exact hr2.elim
    | _ => exact hr.elim
end
/-- sorted(set(l)) of a list of whole numbers -/
def tSortSet (K : PySem.W.Frag) (ta : TE) : TE := fun σ H Q => ta σ H fun x H1 => ∃ (l : Addr) (ns : List Int), x = .ref l ∧ SqL K H1 l (ns.map V.int) ∧ ns.length < 64 ∧ ∀ (out : List Int) (p : Addr), out.Pairwise (· < ·) → (∀ k, k ∈ out ↔ k ∈ ns) → H1 p = none → Q (.ref p) (upd H1 p (.lst (out.map V.int)))
theorem pe_sortSet {X : Cx} {a : Expr} {ta : TE} {p p2 q pos : Pos} (hg : Gl X "sorted") (hm : X.mg "sorted" = none) (hg2 : Gl X "set") (hm2 : X.mg "set" = none) (ha : PE X a ta) (hc : X.calm = true := by rfl)
    (na : starEach [a] X.env = (false, eval a X.env) :: starEach [] X.env := by rfl) : PE X (.Call (.Name "sorted" p) [.Call (.Name "set" p2) [a] [] q] [] pos) (tSortSet X.K ta) := by
  refine ⟨fun pins s σ H Q I h => ?_⟩
  refine Call_ (ld_blt I hg hm boot_sorted ?_)
  refine callWith_builtin1 (args_cons ?_ rfl) rfl rfl
  refine Call_ (ld_blt I hg2 hm2 boot_set ?_)
  refine callWith_type1 (args_cons (thn (ha.run pins s σ H _ I h) fun v s1 ⟨x, H1, I1, r1, q1⟩ => args_nil ?_) na) na rfl
  obtain ⟨l, ns, rfl, hq, hl, q1⟩ := q1
  cases r1
  obtain ⟨its, r, pl, hz⟩ := I1.list hq
  refine call_setL ns (I1.ok.hd hc) pl.isList (by simpa using ints_of_vals r) (by unfold scanBound; omega) fun h' tk c R1 hcn k => ?_
  refine args_nil ?_
  have I2 : Inv X pins σ H1 { s1 with heap := h', toks := tk } := I1.kept fun b o e => k b o e
  refine sorted_set R1 (I2.ok.hd hc) (by omega) fun s' p out cc ms k2 g o hp hget hi hs hmem hlen => ?_
  have hlz : (ms.map V.int).length ≤ sizeLine := by rw [List.length_map, hlen, sizeLine_eq]; omega
  have hn : H1 p = none := I2.hok.fresh hp
  have J : Inv X pins σ (upd H1 p (.lst (ms.map V.int))) { { s1 with heap := h', toks := tk } with heap := s'.heap, gens := s'.gens, drawn := s'.drawn, toks := s'.toks } :=
    I2.call (ch := []) (Un.laid k2 hp hn) (I2.hok.laid k2 hp ⟨hlz, out.toList, cc, vals_of_ints hi, hget⟩) (by rw [g]; exact I2.bare) (fun _ z => nomatch z)
  have e : s' = { { s1 with heap := h', toks := tk } with heap := s'.heap, gens := s'.gens, drawn := s'.drawn, toks := s'.toks } := by
    cases s'
    cases s1
    cases o
    rfl
  rw [e]
  exact ⟨.ref p, _, J, rfl, q1 ms p hs (fun j => by rw [hmem j, decide_eq_true_eq]) hn⟩
theorem ksortset {K : PySem.W.Frag} {X : Cx} {a : Expr} {ta : TE} {p p2 q pos : Pos} (hg : Gl X "sorted") (hm : X.mg "sorted" = none) (hg2 : Gl X "set") (hm2 : X.mg "set" = none) (ha : PE X a ta) (hc : X.calm = true := by rfl)
    (na : starEach [a] X.env = (false, eval a X.env) :: starEach [] X.env := by rfl) (hK : X.K = K := by rfl) : PE X (.Call (.Name "sorted" p) [.Call (.Name "set" p2) [a] [] q] [] pos) (tSortSet K ta) := by
  subst hK
  exact pe_sortSet hg hm hg2 hm2 ha hc na
section
variable {K : PySem.W.Frag} {σ : L2.St} {F H : Hp} {ta : TE}
theorem ev_sortSet {ns : List Nat} (ha : Ev (rLst rNat) ta σ F H ns) (hz : ns.length < 64) : Ev (rLst rNat) (tSortSet K ta) σ F H (sortN (uniq ns)) := fun F1 H1 g1 Q q =>
  ha F1 H1 g1 _ fun v F2 H2 g2 ⟨a, vs, e, hl, p⟩ => ⟨a, ns.map fun n : Nat => (n : Int), e, by rw [← nats_paired p]; exact SqL.of (g2.fh _ _ hl), by rw [List.length_map]; exact hz, fun out B hs hm hn => by
    have hd : out.Nodup := hs.imp fun {a b} h => by omega
    have hnd : ((uniq ns).map fun n : Nat => (n : Int)).Nodup := by
      refine List.Pairwise.map _ ?_ (nodup_uniq ns)
      intro a b h e
      exact h (by omega)
    have pm : out.Perm ((uniq ns).map fun n : Nat => (n : Int)) := (List.perm_ext_iff_of_nodup hd hnd).mpr fun k => by
      rw [hm, List.mem_map, List.mem_map]
      exact ⟨fun ⟨n, h, e⟩ => ⟨n, mem_uniq.mpr h, e⟩, fun ⟨n, h, e⟩ => ⟨n, mem_uniq.mp h, e⟩⟩
    have e2 := sorted_ints pm (hs.imp fun {a b} h => by omega)
    rw [e2, List.map_map]
    exact q _ _ _ (g2.trans (.new g2.fh hn)) ⟨B, _, rfl, upd_same, nats_P _ _⟩⟩
end
end El

set_option Elab.async false
set_option linter.all false
set_option maxRecDepth 100000
set_option maxHeartbeats 4000000
namespace El
open PySem PySem.Spec L2 PyProof.Rows
variable [LawTabs]
/-! ### several except clauses, some of them with a name -/
structure Cls3 where
  c : Value
  nm : Option Nat
  ts : Addr → Value → Option Addr → TS
def wMix (K : PySem.W.Frag) (Wout : WX) (D : Ends) : List Cls3 → WX
  | [] => Wout
  | ⟨c, none, ts⟩ :: r => wOnly K c ts (wMix K Wout D r) D
  | ⟨c, some i, ts⟩ :: r => wAs K c i ts (wMix K Wout D r) D
inductive HdsM (X : Cx) : List ExceptHandler → List Cls3 → Prop
  | nil : HdsM X [] []
  | bare {x : Str} {c : Value} {ts : Addr → Value → Option Addr → TS} {b₀ : Stmt} {suite : List Stmt} {np pos' : Pos} {hds : List ExceptHandler} {l : List Cls3} (hc : Names X x c)
      (hsu : ∀ (a : Addr) (oe : Obj) (cls : Value) (d : Option Addr) (pn : List (Addr × Obj)), Zc cls d oe → (∃ vs, oe.data = .fields vs) → PSs (X.suite a ((a, oe) :: pn)) (b₀ :: suite) (ts a cls d)) (r : HdsM X hds l) :
      HdsM X (.ExceptHandler (some (.Name x np)) none (b₀ :: suite) pos' :: hds) (⟨c, none, ts⟩ :: l)
  | named {x n : Str} {i : Nat} {c : Value} {ts : Addr → Value → Option Addr → TS} {b₀ : Stmt} {suite : List Stmt} {np pos' : Pos} {hds : List ExceptHandler} {l : List Cls3} (hi : X.N[i]? = some n) (hln : X.env.kindOf n = some .local) (hc : Names X x c)
      (hsu : ∀ (a : Addr) (oe : Obj) (cls : Value) (d : Option Addr) (pn : List (Addr × Obj)), Zc cls d oe → (∃ vs, oe.data = .fields vs) → PSs (X.suite a ((a, oe) :: pn)) (b₀ :: suite) (ts a cls d)) (r : HdsM X hds l) :
      HdsM X (.ExceptHandler (some (.Name x np)) (some n) (b₀ :: suite) pos' :: hds) (⟨c, some i, ts⟩ :: l)
section
variable {X : Cx} {body : List Stmt} {h₀ : ExceptHandler} {hds : List ExceptHandler} {l : List Cls3} {pos : Pos} {tb : WX → TS} {Wout : WX}
theorem ps_try_mix (hs : X.stack = X.env :: X.outer) (hf : X.env.frame = some X.env.locals) (hN : X.N.Nodup) (tk : Takes X Wout)
    (hb : ∀ (W : WX) (pn : List (Addr × Obj)) (xe : Value → Shared → Prop), Takes (X.tr pn xe) W → PassesOwn (model X.prog X.w) X.A X.env xe → PSs (X.tr pn xe) body (tb W))
    (hh : HdsM X (h₀ :: hds) l) : PS X (.Try body (h₀ :: hds) [] [] pos) (fun D σ H => tb (wMix X.K Wout D l) D σ H) := by
  refine ⟨fun pins s σ H D I h => ?_⟩
  have ok := I.ok
  have hfr : X.A.frames = some (X.env :: X.outer) := by rw [ok.frames, hs]
  refine wpAny_Try_except ?_
  refine wpAny_mono ((hb (wMix X.K Wout D l) (X.pn ++ pins) (fun e s₁ => wpAny (model X.prog X.w) X.A (noteFrame e X.env) (fun _ s₂ => wpAny (model X.prog X.w) X.A (setFlight e none) (fun _ s₃ =>
    wpAny (model X.prog X.w) X.A (handleBy e X.env (h₀ :: hds)) (SP X pins D) X.xe s₃) X.xe s₂) X.xe s₁) (fun u s' xx => ?_) PassesOwn.looking).run [] s σ H D (I.toTry _) h) (fun f s1 hsp => ?_) (fun e s1 he => he)
  · obtain ⟨a, B, sI, pins', σ', H', cls, d, rfl, J', nb, up, sky, na, os, ag, w⟩ := xx
    have J : Inv X pins σ' H' sI := J'.ofTry ok
    have sky1 : Sky B (X.env :: X.outer) a (Zc cls d) X.env.locals s'.heap := by rw [← hs]; exact sky
    show wpAny (model X.prog X.w) X.A (noteFrame (.ref a) X.env) _ _ _
    refine Sky.land Zc.steady hfr hf sky1 fun h3 fl3 up3 => ?_
    have J3 : Inv X pins σ' H' { s' with heap := h3 } := J.landed nb fl3.1 (up.trans up3) os ag
    obtain ⟨oe3, vs3, he3, hz3, hd3⟩ := fl3.there
    have nfr : a ∉ frs (X.env :: X.outer) := fun hm => by
      obtain ⟨_, o, e, hnf⟩ := fl3.2.2.1.mem hm
      rw [he3] at e; cases e
      exact hnf _ hd3
    have nL : a ≠ X.env.locals := fun z => nfr (List.mem_filterMap.mpr ⟨X.env, List.mem_cons_self, by rw [hf, z]⟩)
    have nF : a ∉ X.fs := fun hm => by
      obtain ⟨e, he, q⟩ := List.mem_filterMap.mp hm
      exact nfr (List.mem_filterMap.mpr ⟨e, List.mem_cons_of_mem _ he, q⟩)
    have S3 := J3.suite he3 hd3 na nL nF
    have LT : PySem.W.Looks (model X.prog X.w) h3 (typeOf (.ref a)) cls := fun A Q E s k q => wpAny_typeOf_ref (k _ _ he3) (by rw [hz3.1]; exact q)
    have test : ∀ {x : Str} {c : Value} {np : Pos} (hc : Names X x c) {Q E : Value → Shared → Prop}, Q c { s' with heap := h3 } → wpAny (model X.prog X.w) (X.A.mark (some (.ref a))) (eval (.Name x np) X.env) Q E { s' with heap := h3 } := fun {x c np} hc {Q E} q => by
      obtain ⟨hg, hdbg, hm | ⟨hm, hv, hnn⟩⟩ := hc
      · exact ld_glob (X := X.suite a ((a, oe3) :: (X.pn ++ pins))) S3 hg hm q hdbg
      · exact ld_blt (X := X.suite a ((a, oe3) :: (X.pn ++ pins))) S3 hg hm hv q hnn hdbg
    have go : ∀ {hds' : List ExceptHandler} {l' : List Cls3}, HdsM X hds' l' → wMix X.K Wout D l' cls d σ' H' → wpAny (model X.prog X.w) X.A (handleBy (.ref a) X.env hds') (SP X pins D) X.xe { s' with heap := h3 } := by
      intro hds' l' hk
      induction hk with
      | nil =>
        intro w
        refine wpAny_handleBy_nil ?_
        obtain ⟨k1, k2, k3, oe, vs, T, oT, t', he, hz, hd, h1, hr⟩ := id fl3
        unfold PySem.passOn
        refine wpAny_bind (wpAny_field he hd h1 ?_)
        rw [if_neg (show ¬ ((Value.ref T == Value.none) = true) from by simp)]
        have fin : wpAny (model X.prog X.w) X.A (setFlight (.ref a) X.env.frame) (fun _ s4 => wpAny (model X.prog X.w) X.A (throw (.ref a) : Sem Flow) (SP X pins D) X.xe s4) X.xe { s' with heap := h3 } := by
          rw [hf]
          exact HandSPX.setFlight_upZ fl3 fun h4 hh4 up4 => wpAny_throw (tk _ _ ⟨a, B, sI, pins, σ', H', cls, d, rfl, J, nb, (up.trans up3).trans up4, .inr (.inr (by rw [hs]; exact hh4)), na, os, ag, w⟩)
        first
          | exact wpAny_bind (wpAny_pure (wpAny_bind fin))
          | exact wpAny_bind fin
      | @bare x c ts b₀ suite np pos' hds2 l2 hc hsu r ih =>
        rintro ⟨b, hb1, hyes, hno⟩
        refine wpAny_handleBy_cons (codeAny_handlers_test ?_) (by intro q; cases q)
        refine test hc ((PySem.W.exm_one (M := model X.prog X.w) J3.kIn LT hb1).here ?_)
        cases b with
        | false => exact ih (hno rfl)
        | true =>
          refine codeAny_handlers_suite ?_
          refine HandSPX.lands_againZ fl3 fun h4 fl4 up4 => ?_
          have J4 : Inv X pins σ' H' { s' with heap := h4 } := J.landed nb fl4.1 ((up.trans up3).trans up4) os ag
          obtain ⟨oe4, vs4, he4, hz4, hd4⟩ := fl4.there
          refine wpAny_mono ((hsu a oe4 cls d (X.pn ++ pins) hz4 ⟨_, hd4⟩).run [] _ _ H' _ (J4.suite he4 hd4 na nL nF) (hyes rfl a na)) (fun f s6 hsp => ?_) (fun _ _ z => False.elim z)
          cases f with
          | ret u => obtain ⟨v6, σ6, H6, S6, r6, q6⟩ := hsp; exact ⟨_, _, _, S6.unsuite ok, r6, q6⟩
          | _ => obtain ⟨σ6, H6, S6, q6⟩ := hsp; exact ⟨_, _, S6.unsuite ok, q6⟩
      | @named x n i c ts b₀ suite np pos' hds2 l2 hi hln hc hsu r ih =>
        rintro ⟨b, hb1, hyes, hno⟩
        refine wpAny_handleBy_cons (codeAny_handlers_test ?_) (by intro q; cases q)
        refine test hc ((PySem.W.exm_one (M := model X.prog X.w) J3.kIn LT hb1).here ?_)
        cases b with
        | false => exact ih (hno rfl)
        | true =>
          have hloc : Loc X.env.scope n := .inl hln
          refine codeAny_handlers_suite_as ?_
          refine HandSPX.lands_againZ fl3 fun h4 fl4 up4 => ?_
          have J4 : Inv X pins σ' H' { s' with heap := h4 } := J.landed nb fl4.1 ((up.trans up3).trans up4) os ag
          obtain ⟨oe4, vs4, he4, hz4, hd4⟩ := fl4.there
          refine store_ok (X := X.suite a ((a, oe4) :: (X.pn ++ pins))) (v := .ref a) (J4.suite he4 hd4 na nL nF) hN hi hloc rfl (fun s5 S5 => ?_) (.inr hln)
          refine wpAny_mono ((hsu a oe4 cls d (X.pn ++ pins) hz4 ⟨_, hd4⟩).run [] s5 _ H' _ S5 (hyes rfl a na)) (fun f s6 hsp => ?_) (fun _ _ z => False.elim z)
          have last : ∀ {σ6 : L2.St} {H6 : Hp} {Q : Shared → Prop}, Inv (X.suite a ((a, oe4) :: (X.pn ++ pins))) [] σ6 H6 s6 → (∀ s7, Inv X pins (σ6.set i none) H6 s7 → Q s7) →
              wpAny (model X.prog X.w) X.A (do bindName X.env n .none; unbindBehindTheSuite X.env n pos') (fun _ s7 => Q s7) X.xe s6 := fun {σ6 H6 Q} S6 hq => gone_ok (S6.unsuite ok) hN hi hln hq
          cases f with
          | ret u => obtain ⟨v6, σ6, H6, S6, r6, q6⟩ := hsp; exact last S6 fun s7 J7 => ⟨_, _, _, J7, r6, q6⟩
          | next => obtain ⟨σ6, H6, S6, q6⟩ := hsp; exact last S6 fun s7 J7 => ⟨_, _, J7, q6⟩
          | brk => obtain ⟨σ6, H6, S6, q6⟩ := hsp; exact last S6 fun s7 J7 => ⟨_, _, J7, q6⟩
          | cont => obtain ⟨σ6, H6, S6, q6⟩ := hsp; exact last S6 fun s7 J7 => ⟨_, _, J7, q6⟩
    exact go hh w
  · cases f with
    | next => obtain ⟨σ', H', J', q⟩ := hsp; exact wpAny_execs_nil ⟨σ', H', J'.ofTry ok, q⟩
    | ret u => obtain ⟨v, σ', H', J', r, q⟩ := hsp; exact ⟨v, σ', H', J'.ofTry ok, r, q⟩
    | brk => obtain ⟨σ', H', J', q⟩ := hsp; exact ⟨σ', H', J'.ofTry ok, q⟩
    | cont => obtain ⟨σ', H', J', q⟩ := hsp; exact ⟨σ', H', J'.ofTry ok, q⟩
end
/-- whether an error of X's class is named by `except C` -/
theorem exm_at {K : PySem.W.Frag} {X C : Addr} {b : Bool} (xec : PySem.W.subIn K (.ref C) (.type "BaseException") = some true) (xic : PySem.W.isClsIn K C = true) (xty : PySem.W.typeIn K (.ref C) = some (.type "type")) (xsc : PySem.W.subIn K (.ref X) (.ref C) = some b) :
    PySem.W.exmOne K (.ref X) (.ref C) = some b := by
  have xic2 : (PySem.W.clsIn K C).isSome = true := xic
  unfold PySem.W.exmOne PySem.W.kitCls
  simp [xec, xic2, xty, xsc]
end El

set_option Elab.async false
set_option linter.all false
set_option maxRecDepth 100000
set_option maxHeartbeats 4000000
namespace El
open PySem PySem.Spec L2
variable [LawTabs]
/-! ### what is below what -/
inductive Blw (ps : List (Nat × Nat)) : Nat → Nat → Prop
  | one {x y : Nat} : (x, y) ∈ ps → Blw ps x y
  | more {x y z : Nat} : (x, y) ∈ ps → Blw ps y z → Blw ps x z
theorem Blw.trans {ps : List (Nat × Nat)} {x y z : Nat} (h : Blw ps x y) (k : Blw ps y z) : Blw ps x z := by
  induction h with
  | one h => exact .more h k
  | more h _ ih => exact .more h (ih k)
theorem Blw.sub {ps qs : List (Nat × Nat)} {x y : Nat} (hs : ∀ a b, (a, b) ∈ ps → Blw qs a b) (h : Blw ps x y) : Blw qs x y := by
  induction h with
  | one h => exact hs _ _ h
  | more h _ ih => exact (hs _ _ h).trans ih
theorem Blw.lt {ps : List (Nat × Nat)} {n x y : Nat} (hp : ∀ p ∈ ps, p.1 < n ∧ p.2 < n) (h : Blw ps x y) : x < n ∧ y < n := by
  induction h with
  | one h => exact hp _ h
  | more h _ ih => exact ⟨(hp _ h).1, ih.2⟩
theorem Blw.rank {ps : List (Nat × Nat)} {x y : Nat} (f : Nat → Nat) (hp : ∀ p ∈ ps, f p.1 < f p.2) (h : Blw ps x y) : f x < f y := by
  induction h with
  | one h => exact hp _ h
  | more h _ ih => exact Nat.lt_trans (hp _ h) ih
def turnP (ps : List (Nat × Nat)) : List (Nat × Nat) := ps.map fun p => (p.2, p.1)
theorem turn_mem {ps : List (Nat × Nat)} {x y : Nat} : (x, y) ∈ turnP ps ↔ (y, x) ∈ ps := by
  unfold turnP
  rw [List.mem_map]
  constructor
  · rintro ⟨⟨a, b⟩, h, e⟩
    cases e
    exact h
  · intro h
    exact ⟨_, h, rfl⟩
theorem Blw.turn {ps : List (Nat × Nat)} {x y : Nat} (h : Blw ps x y) : Blw (turnP ps) y x := by
  induction h with
  | one h => exact .one (turn_mem.mpr h)
  | more h _ ih => exact ih.trans (.one (turn_mem.mpr h))
theorem turn_turn {ps : List (Nat × Nat)} : turnP (turnP ps) = ps := by
  unfold turnP
  rw [List.map_map]
  exact List.map_id _
theorem blw_turn {ps : List (Nat × Nat)} {x y : Nat} : Blw (turnP ps) x y ↔ Blw ps y x := ⟨fun h => by have := h.turn; rw [turn_turn] at this; exact this, Blw.turn⟩
theorem on_iff {n : Nat} {ps : List (Nat × Nat)} {x y : Nat} (hx : x < n) : y ∈ (onM n ps).getD x [] ↔ (x, y) ∈ ps := by
  rw [on_get hx, List.mem_map]
  constructor
  · rintro ⟨⟨a, b⟩, h, rfl⟩
    obtain ⟨h1, h2⟩ := List.mem_filter.mp h
    have : a = x := by simpa using h2
    subst this
    exact h1
  · intro h
    exact ⟨(x, y), List.mem_filter.mpr ⟨h, by simp⟩, rfl⟩
theorem dfs_sound {n : Nat} {ps : List (Nat × Nat)} (hp : ∀ p ∈ ps, p.1 < n ∧ p.2 < n) : ∀ (m : Nat) (w r : List Nat), (∀ a ∈ w, a < n) → ∀ y ∈ dfs (onM n ps) m w r, y ∈ r ∨ ∃ a ∈ w, a = y ∨ Blw ps a y
  | 0, w, r, _, y, h => .inl h
  | m + 1, w, r, hw, y, h => by
    rcases List.eq_nil_or_concat w with rfl | ⟨w', one, rfl⟩
    · rw [dfs_nil] at h; exact .inl h
    · rw [List.concat_eq_append] at hw h ⊢
      have ho : one < n := hw one (List.mem_append_right _ (List.mem_singleton_self _))
      by_cases h1 : one ∈ r
      · rw [dfs_old h1] at h
        rcases dfs_sound hp m w' r (fun a ha => hw a (List.mem_append_left _ ha)) y h with q | ⟨a, ha, q⟩
        · exact .inl q
        · exact .inr ⟨a, List.mem_append_left _ ha, q⟩
      · rw [dfs_new h1] at h
        rcases dfs_sound hp m _ _ (fun a ha => (List.mem_append.mp ha).elim (fun ha => hw a (List.mem_append_left _ ha)) fun ha => on_mem hp ha) y h with q | ⟨a, ha, q⟩
        · rcases List.mem_append.mp q with q | q
          · exact .inl q
          · have := List.mem_singleton.mp q
            subst this
            exact .inr ⟨_, List.mem_append_right _ (List.mem_singleton_self _), .inl rfl⟩
        · rcases List.mem_append.mp ha with ha | ha
          · exact .inr ⟨a, List.mem_append_left _ ha, q⟩
          · have hoa := (on_iff ho).mp ha
            refine .inr ⟨one, List.mem_append_right _ (List.mem_singleton_self _), .inr ?_⟩
            rcases q with rfl | q
            · exact .one hoa
            · exact .more hoa q
theorem dfs_full {n : Nat} {ps : List (Nat × Nat)} (hp : ∀ p ∈ ps, p.1 < n ∧ p.2 < n) : ∀ (m : Nat) (w r : List Nat), measM n ps.length w r ≤ m → r.Nodup → (∀ a ∈ r, a < n) → (∀ a ∈ w, a < n) → (∀ a ∈ r, ∀ b, (a, b) ∈ ps → b ∈ r ∨ b ∈ w) →
    (∀ a ∈ r, a ∈ dfs (onM n ps) m w r) ∧ (∀ a ∈ w, a ∈ dfs (onM n ps) m w r) ∧ (dfs (onM n ps) m w r).Nodup ∧ (∀ a ∈ dfs (onM n ps) m w r, a < n) ∧ ∀ a ∈ dfs (onM n ps) m w r, ∀ b, (a, b) ∈ ps → b ∈ dfs (onM n ps) m w r
  | m, w, r, hm, nd, hr, hw, hc => by
    rcases List.eq_nil_or_concat w with rfl | ⟨w', one, rfl⟩
    · rw [dfs_nil]
      exact ⟨fun _ h => h, fun _ h => (List.not_mem_nil h).elim, nd, hr, fun a ha b hb => (hc a ha b hb).elim id fun h => (List.not_mem_nil h).elim⟩
    · rw [List.concat_eq_append] at hm hw hc ⊢
      have ho : one < n := hw one (List.mem_append_right _ (List.mem_singleton_self _))
      cases m with
      | zero =>
        unfold measM at hm
        rw [List.length_append] at hm
        simp at hm
      | succ m =>
        by_cases h1 : one ∈ r
        · rw [dfs_old h1]
          have hm' : measM n ps.length w' r ≤ m := by
            have := meas_old (n := n) (L := ps.length) (w := w') (r := r) (one := one)
            omega
          obtain ⟨q1, q2, q3, q4, q5⟩ := dfs_full hp m w' r hm' nd hr (fun a ha => hw a (List.mem_append_left _ ha)) fun a ha b hb => by
            rcases hc a ha b hb with h | h
            · exact .inl h
            · rcases List.mem_append.mp h with h | h
              · exact .inr h
              · rw [List.mem_singleton.mp h]; exact .inl h1
          refine ⟨q1, fun a ha => ?_, q3, q4, q5⟩
          rcases List.mem_append.mp ha with h | h
          · exact q2 a h
          · rw [List.mem_singleton.mp h]; exact q1 one h1
        · rw [dfs_new h1]
          have nd' : (r ++ [one]).Nodup := by
            rw [List.nodup_append]
            exact ⟨nd, by simp, fun a ha b hb => by rw [List.mem_singleton.mp hb]; exact fun e => h1 (e ▸ ha)⟩
          have hr' : ∀ a ∈ r ++ [one], a < n := fun a ha => (List.mem_append.mp ha).elim (hr a) fun h => by rw [List.mem_singleton.mp h]; exact ho
          have hrl : r.length < n := by
            have := nodup_lt nd' hr'
            rw [List.length_append] at this
            exact this
          have hm' : measM n ps.length (w' ++ (onM n ps).getD one []) (r ++ [one]) ≤ m := by
            have := meas_new (n := n) (L := ps.length) (w := w') (r := r) (one := one) (more := (onM n ps).getD one []) on_le hrl
            omega
          obtain ⟨q1, q2, q3, q4, q5⟩ := dfs_full hp m _ _ hm' nd' hr' (fun a ha => (List.mem_append.mp ha).elim (fun ha => hw a (List.mem_append_left _ ha)) fun ha => on_mem hp ha) fun a ha b hb => by
            rcases List.mem_append.mp ha with ha | ha
            · rcases hc a ha b hb with h | h
              · exact .inl (List.mem_append_left _ h)
              · rcases List.mem_append.mp h with h | h
                · exact .inr (List.mem_append_left _ h)
                · exact .inl (List.mem_append_right _ h)
            · rw [List.mem_singleton.mp ha] at hb
              exact .inr (List.mem_append_right _ ((on_iff ho).mpr hb))
          refine ⟨fun a ha => q1 a (List.mem_append_left _ ha), fun a ha => ?_, q3, q4, q5⟩
          rcases List.mem_append.mp ha with h | h
          · exact q2 a (List.mem_append_left _ h)
          · exact q1 a (List.mem_append_right _ h)
/-- rows that tell a relation -/
structure OrdR (n : Nat) (hs : List (List Nat)) (B : Nat → Nat → Prop) : Prop where
  len : hs.length = n
  nd : ∀ x, x < n → (hs.getD x []).Nodup
  mem : ∀ x, x < n → ∀ y, y ∈ hs.getD x [] ↔ B x y
  lt : ∀ x, x < n → ∀ y, B x y → y < n
  tr : ∀ x y z, B x y → B y z → B x z
  irr : ∀ x, ¬ B x x
theorem above_rel {n : Nat} {ps : List (Nat × Nat)} (hp : ∀ p ∈ ps, p.1 < n ∧ p.2 < n) (hi : ∀ x, ¬ Blw ps x x) : OrdR n (aboveM n ps) (Blw ps) := by
  have full : ∀ x, x < n → _ := fun x hx => dfs_full hp (fuelM n ps) ((onM n ps).getD x []) [] (by
    unfold measM fuelM
    have := on_le (n := n) (ps := ps) (x := x)
    show (n - 0) * (ps.length + 1) + _ ≤ _
    rw [Nat.sub_zero]
    omega) List.nodup_nil (fun _ h => (List.not_mem_nil h).elim) (fun a ha => on_mem hp ha) fun _ h => (List.not_mem_nil h).elim
  have eg : ∀ x, x < n → (aboveM n ps).getD x [] = dfs (onM n ps) (fuelM n ps) ((onM n ps).getD x []) [] := fun x hx => by
    rw [List.getD_eq_getElem?_getD, above_get hx]
    rfl
  refine ⟨above_len, fun x hx => by rw [eg x hx]; exact (full x hx).2.2.1, fun x hx y => ?_, fun x hx y h => (h.lt hp).2, fun x y z => Blw.trans, hi⟩
  rw [eg x hx]
  obtain ⟨_, q2, _, _, q5⟩ := full x hx
  constructor
  · intro h
    rcases dfs_sound hp _ _ _ (fun a ha => on_mem hp ha) y h with q | ⟨a, ha, q⟩
    · exact (List.not_mem_nil q).elim
    · have hxa := (on_iff hx).mp ha
      rcases q with rfl | q
      · exact .one hxa
      · exact .more hxa q
  · intro h
    have go : ∀ {a y : Nat}, Blw ps a y → a ∈ dfs (onM n ps) (fuelM n ps) ((onM n ps).getD x []) [] → y ∈ dfs (onM n ps) (fuelM n ps) ((onM n ps).getD x []) [] := fun {a y} h => by
      induction h with
      | one h => exact fun ha => q5 _ ha _ h
      | more h _ ih => exact fun ha => ih (q5 _ ha _ h)
    cases h with
    | one h => exact q2 _ ((on_iff hx).mpr h)
    | more h k => exact go k (q2 _ ((on_iff hx).mpr h))
section
variable {n : Nat} {hs hs' : List (List Nat)} {B B' : Nat → Nat → Prop}
theorem OrdR.most (o : OrdR n hs B) {x y : Nat} (hx : x < n) : atMostM hs x y = true ↔ x = y ∨ B x y := by
  unfold atMostM
  rw [Bool.or_eq_true, decide_eq_true_iff, decide_eq_true_iff, o.mem x hx]
theorem bool_iff {a b : Bool} (h : a = true ↔ b = true) : a = b := by
  cases a <;> cases b <;> simp_all
/-- an order and the one turned about -/
theorem OrdR.turned (o : OrdR n hs B) (o' : OrdR n hs' fun x y => B y x) {x y : Nat} (hx : x < n) (hy : y < n) : atMostM hs' y x = atMostM hs x y :=
  bool_iff (by rw [o.most hx, o'.most hy]; exact ⟨fun h => h.imp Eq.symm id, fun h => h.imp Eq.symm id⟩)
theorem OrdR.same (o : OrdR n hs B) (o' : OrdR n hs' B) {x y : Nat} (hx : x < n) : atMostM hs' x y = atMostM hs x y :=
  bool_iff (by rw [o.most hx, o'.most hx])
theorem full_list {l : List Nat} {q : Nat} (nd : l.Nodup) (h : ∀ y ∈ l, y < n) (hl : l.length = n) (hq : q < n) : q ∈ l := by
  by_cases h1 : q ∈ l
  · exact h1
  · have := nodup_lt (n := n) (r := q :: l) (List.nodup_cons.mpr ⟨h1, nd⟩) fun y hy => by
      rcases List.mem_cons.mp hy with rfl | hy
      · exact hq
      · exact h y hy
    rw [List.length_cons] at this
    omega
theorem find_congr {p q : Nat → Bool} (h : ∀ x, x < n → p x = q x) : (List.range n).find? p = (List.range n).find? q := by
  have : ∀ l : List Nat, (∀ x ∈ l, x < n) → l.find? p = l.find? q := fun l => by
    induction l with
    | nil => exact fun _ => rfl
    | cons a l ih => exact fun hl => by rw [List.find?_cons, List.find?_cons, h a (hl a (List.mem_cons_self ..)), ih fun x hx => hl x (List.mem_cons_of_mem _ hx)]
  exact this _ fun x hx => List.mem_range.mp hx
theorem OrdR.least (o : OrdR n hs B) : leastM hs = (List.range n).find? fun p => (List.range n).all fun q => atMostM hs p q := by
  unfold leastM
  rw [o.len]
  refine find_congr fun p hp => bool_iff ?_
  have nd1 : (p :: hs.getD p []).Nodup := List.nodup_cons.mpr ⟨fun h => o.irr p ((o.mem p hp p).mp h), o.nd p hp⟩
  have lt1 : ∀ y ∈ p :: hs.getD p [], y < n := fun y hy => by
    rcases List.mem_cons.mp hy with rfl | hy
    · exact hp
    · exact o.lt p hp y ((o.mem p hp y).mp hy)
  have le := nodup_lt nd1 lt1
  rw [List.length_cons] at le
  rw [decide_eq_true_iff, List.all_eq_true]
  constructor
  · intro h q hq
    have := full_list nd1 lt1 (by rw [List.length_cons]; omega) (List.mem_range.mp hq)
    rw [o.most hp]
    rcases List.mem_cons.mp this with h | h
    · exact .inl h.symm
    · exact .inr ((o.mem p hp q).mp h)
  · intro h
    have := L2.nat_nodup_len (List.range n) (p :: hs.getD p []) List.nodup_range fun q hq => by
      rcases (o.most hp).mp (h q hq) with h | h
      · exact h ▸ List.mem_cons_self ..
      · exact List.mem_cons_of_mem _ ((o.mem p hp q).mpr h)
    rw [List.length_range, List.length_cons] at this
    omega
theorem OrdR.greatest (o : OrdR n hs B) : greatestM hs = (List.range n).find? fun p => (List.range n).all fun q => atMostM hs q p := by
  unfold greatestM
  rw [o.len]
theorem all_congr {p q : Nat → Bool} (h : ∀ x, x < n → p x = q x) : (List.range n).all p = (List.range n).all q := bool_iff (by
  rw [List.all_eq_true, List.all_eq_true]
  exact ⟨fun k x hx => by rw [← h x (List.mem_range.mp hx)]; exact k x hx, fun k x hx => by rw [h x (List.mem_range.mp hx)]; exact k x hx⟩)
theorem OrdR.least_turned (o : OrdR n hs B) (o' : OrdR n hs' fun x y => B y x) : leastM hs' = greatestM hs := by
  rw [o'.least, o.greatest]
  exact find_congr fun p hp => all_congr fun q hq => o.turned o' hq hp
theorem OrdR.greatest_turned (o : OrdR n hs B) (o' : OrdR n hs' fun x y => B y x) : greatestM hs' = leastM hs := by
  rw [o'.greatest, o.least]
  exact find_congr fun p hp => all_congr fun q hq => o.turned o' hp hq
theorem OrdR.least_same (o : OrdR n hs B) (o' : OrdR n hs' B) : leastM hs' = leastM hs := by
  rw [o'.least, o.least]
  exact find_congr fun p hp => all_congr fun q hq => o.same o' hp
theorem OrdR.greatest_same (o : OrdR n hs B) (o' : OrdR n hs' B) : greatestM hs' = greatestM hs := by
  rw [o'.greatest, o.greatest]
  exact find_congr fun p hp => all_congr fun q hq => o.same o' hq
theorem OrdR.row_len (o : OrdR n hs B) {x : Nat} (hx : x < n) : (hs.getD x []).length ≤ n := nodup_lt (o.nd x hx) fun y hy => o.lt x hx y ((o.mem x hx y).mp hy)
theorem OrdR.ok (o : OrdR n hs B) {lo hi : Nat} (hl : leastM hs = some lo) (hg : greatestM hs = some hi) : OrdOk n hs lo hi := by
  rw [o.least] at hl
  rw [o.greatest] at hg
  have l1 := List.find?_some hl
  have g1 := List.find?_some hg
  refine ⟨List.mem_range.mp (List.mem_of_find?_eq_some hl), List.mem_range.mp (List.mem_of_find?_eq_some hg), fun x hx => List.all_eq_true.mp l1 x (List.mem_range.mpr hx), fun x hx => List.all_eq_true.mp g1 x (List.mem_range.mpr hx), fun x y hx hy h k => ?_⟩
  rcases (o.most hx).mp h with h | h
  · exact h
  · rcases (o.most hy).mp k with k | k
    · exact k.symm
    · exact (o.irr x (o.tr x y x h k)).elim
/-! ### what isn't kept -/
def KeptS (t : Tn) (hs : List (List Nat)) (s : Nat) : Prop := ∀ x y, x < t.many → y < t.many → atMostM hs x y = true → atMostM hs ((t.maps.getD s []).getD x 0) ((t.maps.getD s []).getD y 0) = true
def badS (t : Tn) (hs : List (List Nat)) (s : Nat) : Bool := (trisS t.many hs s).any (badB t hs)
theorem bad_kept {t : Tn} (o : OrdR t.many hs B) {s : Nat} (h1 : s < t.maps.length) : badS t hs s = false ↔ KeptS t hs s := by
  unfold badS KeptS
  rw [List.any_eq_false]
  constructor
  · intro h x y hx hy hm
    rcases (o.most hx).mp hm with e | hb
    · subst e; exact atMost_refl _ _
    · have := h (s, x, y) (List.mem_flatten.mpr ⟨trisG hs s x, List.mem_map.mpr ⟨x, List.mem_range.mpr hx, rfl⟩, List.mem_map.mpr ⟨y, sort_mem.mpr ((o.mem x hx y).mpr hb), rfl⟩⟩)
      unfold badB at this
      simpa using this
  · rintro h p hp
    obtain ⟨l2, hl2, hm⟩ := List.mem_flatten.mp hp
    obtain ⟨x, hx, rfl⟩ := List.mem_map.mp hl2
    obtain ⟨y, hy, rfl⟩ := List.mem_map.mp hm
    have hx := List.mem_range.mp hx
    have hb := (o.mem x hx y).mp (sort_mem.mp hy)
    have := h x y hx (o.lt x hx y hb) ((o.most hx).mpr (.inr hb))
    rw [show badB t hs (s, x, y) = !true by unfold badB; rw [← this]]
    exact Bool.false_ne_true
theorem sgn_find {t : Tn} : (notKeptM t hs).map (·.1) = (List.range t.maps.length).find? (badS t hs) := by
  unfold notKeptM trisM
  have : ∀ l : List Nat, ((l.map (trisS t.many hs)).flatten.find? (badB t hs)).map (·.1) = l.find? (badS t hs) := fun l => by
    induction l with
    | nil => rfl
    | cons s l ih =>
      rw [List.map_cons, List.flatten_cons, List.find?_append, List.find?_cons]
      cases hq : (trisS t.many hs s).find? (badB t hs) with
      | none =>
        have : badS t hs s = false := by
          unfold badS
          rw [List.any_eq_false]
          exact fun x hx => by simpa using List.find?_eq_none.mp hq x hx
        rw [this]
        exact ih
      | some p =>
        have hb := List.find?_some hq
        have hm := List.mem_of_find?_eq_some hq
        have : badS t hs s = true := List.any_eq_true.mpr ⟨p, hm, hb⟩
        rw [this]
        obtain ⟨l2, hl2, hm⟩ := List.mem_flatten.mp hm
        obtain ⟨x, hx, rfl⟩ := List.mem_map.mp hl2
        obtain ⟨y, hy, rfl⟩ := List.mem_map.mp hm
        rfl
  exact this _
theorem map_val {t : Tn} {s x : Nat} (h1 : s < t.maps.length) (hx : x < t.many) : (t.maps.getD s []).getD x 0 < t.many := map_lt (t.isMap h1) hx
theorem OrdR.sgn_turned {t : Tn} (o : OrdR t.many hs B) (o' : OrdR t.many hs' fun x y => B y x) : (notKeptM t hs').map (·.1) = (notKeptM t hs).map (·.1) := by
  rw [sgn_find, sgn_find]
  refine find_congr fun s h1 => ?_
  have key : badS t hs' s = false ↔ badS t hs s = false := by
    rw [bad_kept o h1, bad_kept o' h1]
    unfold KeptS
    constructor
    · intro h x y hx hy hm
      rw [← o.turned o' (map_val h1 hx) (map_val h1 hy)]
      exact h y x hy hx (by rw [o.turned o' hx hy]; exact hm)
    · intro h x y hx hy hm
      rw [o.turned o' (map_val h1 hy) (map_val h1 hx)]
      exact h y x hy hx (by rw [← o.turned o' hy hx]; exact hm)
  cases h : badS t hs s with
  | true => cases k : badS t hs' s with
    | true => rfl
    | false => rw [key.mp k] at h; cases h
  | false => exact key.mpr h
theorem sort_same {a b : List Nat} (ha : a.Nodup) (hb : b.Nodup) (h : ∀ y, y ∈ a ↔ y ∈ b) : sortN a = sortN b := by
  have p : a.Perm b := (List.perm_ext_iff_of_nodup ha hb).mpr h
  exact sorted_eq (((sort_perm a).trans p).trans (sort_perm b).symm) (sort_sorted a) (sort_sorted b)
theorem OrdR.kept_same {t : Tn} (o : OrdR t.many hs B) (o' : OrdR t.many hs' B) : notKeptM t hs' = notKeptM t hs := by
  unfold notKeptM
  have e : trisM t hs' = trisM t hs := by
    unfold trisM trisS
    congr 1
    refine List.map_congr_left fun s _ => ?_
    congr 1
    refine List.map_congr_left fun x hx => ?_
    have hx := List.mem_range.mp hx
    unfold trisG
    rw [sort_same (o'.nd x hx) (o.nd x hx) fun y => by rw [o'.mem x hx, o.mem x hx]]
  rw [e]
  have : ∀ l : List (Nat × Nat × Nat), (∀ p ∈ l, p ∈ trisM t hs) → l.find? (badB t hs') = l.find? (badB t hs) := fun l => by
    induction l with
    | nil => exact fun _ => rfl
    | cons p l ih =>
      intro hl
      obtain ⟨l1, hl1, hm⟩ := List.mem_flatten.mp (hl p (List.mem_cons_self ..))
      obtain ⟨s, hs1, rfl⟩ := List.mem_map.mp hl1
      obtain ⟨l2, hl2, hm⟩ := List.mem_flatten.mp hm
      obtain ⟨x, hx, rfl⟩ := List.mem_map.mp hl2
      obtain ⟨y, hy, rfl⟩ := List.mem_map.mp hm
      have eb : badB t hs' (s, x, y) = badB t hs (s, x, y) := by
        unfold badB
        rw [o.same o' (map_val (List.mem_range.mp hs1) (List.mem_range.mp hx))]
      rw [List.find?_cons, List.find?_cons, eb, ih fun q hq => hl q (List.mem_cons_of_mem _ hq)]
  exact this _ fun _ h => h
/-- what is told: the draw, or the sign that isn't kept, or that an end is wanting -/
inductive Tld where
  | got : Option (Nat × Nat) → Tld
  | not : Nat → Tld
  | ends : Tld
  deriving DecidableEq
def tldM (t : Tn) (hs : List (List Nat)) (xs : List Nat) : Tld := match (notKeptM t hs).map (·.1) with
  | some s => .not s
  | none => match leastM hs, greatestM hs with
    | some lo, some hi => .got (loopB t lo hi (idMap t.many) 0 xs)
    | _, _ => .ends
theorem tld_drawn {t : Tn} (o : OrdR t.many hs B) {xs : List Nat} (hx : ∀ s ∈ xs, s < t.maps.length) : tldM t hs xs = match (notKeptM t hs).map (·.1) with
  | some s => .not s
  | none => if (leastM hs).isSome && (greatestM hs).isSome then .got (drawnM t xs) else .ends := by
  unfold tldM
  cases hn : notKeptM t hs with
  | some p => rfl
  | none =>
    show (match leastM hs, greatestM hs with
      | some lo, some hi => Tld.got (loopB t lo hi (idMap t.many) 0 xs)
      | _, _ => .ends) = if (leastM hs).isSome && (greatestM hs).isSome then .got (drawnM t xs) else .ends
    cases hl : leastM hs with
    | none => cases greatestM hs <;> rfl
    | some lo =>
      cases hg : greatestM hs with
      | none => rfl
      | some hi =>
        show Tld.got _ = Tld.got _
        rw [between_eq (o.ok hl hg) hn hx]
theorem OrdR.told_turned {t : Tn} (o : OrdR t.many hs B) (o' : OrdR t.many hs' fun x y => B y x) {xs : List Nat} (hx : ∀ s ∈ xs, s < t.maps.length) : tldM t hs' xs = tldM t hs xs := by
  rw [tld_drawn o hx, tld_drawn o' hx, o.sgn_turned o', o.least_turned o', o.greatest_turned o', Bool.and_comm]
theorem OrdR.told_same {t : Tn} (o : OrdR t.many hs B) (o' : OrdR t.many hs' B) {xs : List Nat} (hx : ∀ s ∈ xs, s < t.maps.length) : tldM t hs' xs = tldM t hs xs := by
  rw [tld_drawn o hx, tld_drawn o' hx, o.kept_same o', o.least_same o', o.greatest_same o']
end
end El

set_option Elab.async false
set_option linter.all false
set_option maxRecDepth 100000
set_option maxHeartbeats 4000000
namespace El
open PySem PySem.Spec L2
variable [LawTabs]
/-! ### what k85's _law_told tells -/
abbrev sNK : Str := "not kept"
abbrev sNE : Str := "no ends"
def rTld : Rp Tld := fun F v x => match x with
  | .got o => rOpt (rPr rNat rNat) F v o
  | .not s => ∃ a, v = .ref a ∧ F a = some (.tup [.str sNK, .int (s : Int)])
  | .ends => v = .str sNE
instance : Mn rTld := ⟨fun {H H' v x} e h => by
  cases x with
  | got o => exact Mn.mono (R := rOpt (rPr rNat rNat)) e h
  | not s => obtain ⟨a, h1, h2⟩ := h; exact ⟨a, h1, e _ _ h2⟩
  | ends => exact h⟩
def tldData : Tld → PyData
  | .got o => dO.data o
  | .not s => .tuple [.str sNK, .int (s : Int)]
  | .ends => .str sNE
theorem tld_got_not (o : Option (Nat × Nat)) (s : Nat) : PyData.eqv (dO.data o) (.tuple [.str sNK, .int (s : Int)]) = false := by
  cases o with
  | none => rfl
  | some p => rfl
theorem tld_not_got (o : Option (Nat × Nat)) (s : Nat) : PyData.eqv (.tuple [.str sNK, .int (s : Int)]) (dO.data o) = false := by
  cases o with
  | none => rfl
  | some p => rfl
theorem tld_got_ends (o : Option (Nat × Nat)) : PyData.eqv (dO.data o) (.str sNE) = false := by
  cases o with
  | none => rfl
  | some p => rfl
theorem tld_ends_got (o : Option (Nat × Nat)) : PyData.eqv (.str sNE) (dO.data o) = false := by
  cases o with
  | none => rfl
  | some p => rfl
instance : Dt rTld where
  data := tldData
  rep := fun {K F H v x} e h => by
    cases x with
    | got o => exact dO.rep e h
    | not s => obtain ⟨a, h1, h2⟩ := h; subst h1; exact .tup (SqT.of (e _ _ h2)) (.cons (.str _) (.cons (.int _) .nil))
    | ends => cases (show v = _ from h); exact .str _
  lay := fun x => by
    cases x with
    | got o => exact dO.lay o
    | not s =>
      show (PyData.strOk sNK && (true && true)) = true
      rw [show PyData.strOk sNK = true by decide +kernel]
      rfl
    | ends => show PyData.strOk sNE = true; decide +kernel
  dep := 10
  depth := fun x => by
    cases x with
    | got o =>
      have h1 := dO.depth o
      have h2 : dO.dep ≤ 5 := by exact Nat.le_of_ble_eq_true rfl
      show PyData.depth (dO.data o) ≤ 10
      omega
    | not s => show max 0 (max 0 0) + 1 ≤ 10; decide
    | ends => show 0 ≤ 10; decide
  eqv := fun x y => by
    cases x with
    | got o =>
      cases y with
      | got o' => exact (dO.eqv o o').trans ⟨fun h => by rw [h], fun h => Tld.got.inj h⟩
      | not s => rw [show PyData.eqv (tldData (.got o)) (tldData (.not s)) = false from tld_got_not o s]; exact ⟨(fun h => nomatch h), (fun h => nomatch h)⟩
      | ends => rw [show PyData.eqv (tldData (.got o)) (tldData .ends) = false from tld_got_ends o]; exact ⟨(fun h => nomatch h), (fun h => nomatch h)⟩
    | not s =>
      cases y with
      | got o => rw [show PyData.eqv (tldData (.not s)) (tldData (.got o)) = false from tld_not_got o s]; exact ⟨(fun h => nomatch h), (fun h => nomatch h)⟩
      | not s' =>
        show ((sNK == sNK) && (((s : Int) == (s' : Int)) && true)) = true ↔ _
        rw [beq_self_eq_true, Bool.true_and, Bool.and_true, beq_iff_eq]
        exact ⟨fun h => by rw [Int.ofNat.inj h], fun h => by rw [Tld.not.inj h]⟩
      | ends => exact ⟨(fun h => nomatch h), (fun h => nomatch h)⟩
    | ends =>
      cases y with
      | got o => rw [show PyData.eqv (tldData .ends) (tldData (.got o)) = false from tld_ends_got o]; exact ⟨(fun h => nomatch h), (fun h => nomatch h)⟩
      | not s => exact ⟨(fun h => nomatch h), (fun h => nomatch h)⟩
      | ends => exact ⟨fun _ => rfl, fun _ => beq_self_eq_true sNE⟩
/-! ### promises of what isn't told exactly, without draws -/
def SpR2 {α β γ : Type} (R : Rp α) (S : Rp β) (Pre : α → β → Prop) (T : Rp γ) (P : α → β → γ → Prop) : Sp := fun vs H Q _ => ∃ F v w x y, vs = [v, w] ∧ ExT F H ∧ R F v x ∧ S F w y ∧ Pre x y ∧ ∀ r z F' H', Gr M0 F H F' H' → P x y z → T F' r z → Q r H'
instance {α β γ : Type} {R : Rp α} {S : Rp β} {Pre : α → β → Prop} {T : Rp γ} {P : α → β → γ → Prop} : SpLen (SpR2 R S Pre T P) 2 := ⟨fun ⟨_, _, _, _, _, h, _⟩ => by rw [h]; rfl⟩
section
variable {K : PySem.W.Frag} {σ : St} {F H F' H' : Hp} {ta tb tc te : TE} {α β γ : Type} {R : Rp α} {S : Rp β} {T : Rp γ} {x : α} {y : β} {D : Ends} {E : XK} {a : Addr} {c1 c2 N : Nat} {ns : List Nat} {k : Nat}
theorem es_callR2 {Pre : α → β → Prop} {P : α → β → γ → Prop} (ha : ∀ F1 H1, Gr (M1 a) F H F1 H1 → F1 a = none → Ev R ta σ F1 H1 x) (hb : ∀ F1 H1, Gr (M1 a) F H F1 H1 → F1 a = none → Ev S tb σ F1 H1 y) (p : Pre x y) (m : Mn R := by infer_instance) :
    EvS a 0 T (tCall (SpR2 R S Pre T P) [] E (tCons ta (tCons tb tNil))) σ F H (P x y) := fun F1 H1 N g fa s Q q => by
  obtain ⟨o, ho⟩ := s.someO
  refine ha F1 H1 g fa F1 H1 (.refl g.fh) _ fun v F2 H2 g2 r => hb F2 H2 (g.trans g2.up) (g2.nn ho fa) F2 H2 (.refl g2.fh) _ fun w F3 H3 g3 r3 => ?_
  refine ⟨F3, v, w, x, y, rfl, g3.fh, m.mono g3.ff r, r3, p, fun r z F' H' g' pz rr => ?_⟩
  have G := g2.trans (g3.trans g')
  exact q r z F' H' G.up (G.nn ho fa) ((s.gr G).le (by omega)) pz rr
/-- l.index(k), where k is in l -/
theorem idx_nats : ∀ {ns : List Nat} {k : Nat}, k ∈ ns → ∃ z, (ns.map fun n : Nat => V.int (n : Int))[ns.idxOf k]? = some z ∧ eqV z (.int (k : Int)) = true ∧ ∀ (m : Nat) (z' : V), m < ns.idxOf k → (ns.map fun n : Nat => V.int (n : Int))[m]? = some z' → eqV z' (.int (k : Int)) = false
  | n :: ns, k, h => by
    by_cases e : n = k
    · subst e
      rw [List.idxOf_cons_self]
      exact ⟨.int (n : Int), rfl, by show decide ((n : Int) = (n : Int)) = true; exact decide_eq_true rfl, fun m z' hm => absurd hm (Nat.not_lt_zero m)⟩
    · have hk : k ∈ ns := (List.mem_cons.mp h).elim (fun q => absurd q.symm e) id
      obtain ⟨z, h1, h2, h3⟩ := idx_nats hk
      rw [show (n :: ns).idxOf k = ns.idxOf k + 1 by rw [List.idxOf_cons, beq_false_of_ne e]; rfl]
      refine ⟨z, h1, h2, fun m z' hm hz => ?_⟩
      cases m with
      | zero => cases hz; show decide ((n : Int) = (k : Int)) = false; exact decide_eq_false (by omega)
      | succ m => exact h3 m z' (by omega) hz
theorem ev_index (ha : Ev (rLst rNat) ta σ F H ns) (hk : Ev rNat tb σ F H k) (hm : k ∈ ns) : Ev rNat (tBM K "list" (rIndex K) ta (tCons tb tNil)) σ F H (ns.idxOf k) := fun F1 H1 g1 Q q =>
  ha F1 H1 g1 _ fun v F2 H2 g2 ⟨p, vs, e, hp, pr⟩ => by
    have ev := nats_eq pr
    subst ev
    subst e
    refine ⟨.inl ⟨rfl, _, SqL.of (g2.fh _ _ hp)⟩, hk F2 H2 (g1.trans g2) _ fun w F3 H3 g3 r3 => ?_⟩
    cases (show w = _ from r3)
    obtain ⟨z, h1, h2, h3⟩ := idx_nats hm
    exact ⟨p, _, _, _, z, rfl, rfl, SqL.of (g3.hx _ _ (g2.fh _ _ hp)), rfl, flat_nats ns, h1, h2, h3, q _ F3 H3 (g2.trans g3) rfl⟩
/-- a drawn comprehension, its list written at behind it -/
theorem x_lcSM {j B q : Nat} {vs : List Nat} {P1 : Int → Prop} {P2 : Nat → β → Prop} (h : EvS a c1 rInt ta σ F H P1) (hn : ∀ n, P1 n → 0 ≤ n ∧ n ≤ (B : Int)) (hB : B ≤ 1000000) (hw : ∀ v, wipe ((wipe σ vs).set j (some v)) vs = wipe σ vs)
    (he : ∀ i : Nat, i < B → ∀ F1 H1, Gr (M1 a) F H F1 H1 → F1 a = none → EvS a c2 S te ((wipe σ vs).set j (some (.int (i : Int)))) F1 H1 (P2 i)) (e : ExT F H) (fa : F a = none) (s : Src H a N) (hc : c1 + B * c2 ≤ N)
    (k : ∀ l us xs F' H', Gr (M1 a) F H F' H' → F' a = none → Src H' a (N - (c1 + B * c2)) → l ≠ a → H l = none → F' l = none → H' l = some (.lst us) → Paired (S F') us xs → (∃ n, P1 n ∧ (xs.length : Int) = n) → (∀ (i : Nat) x, xs[i]? = some x → P2 i x) → D.nx (σ.set q (some (.ref l))) H') (m' : Mn S := by infer_instance) :
    tAsg (tLc (iRng1 (tCons ta tNil)) (gName j) tYes te vs) (gName q) D σ H := by
  refine h F H (N - c1) (.refl e) fa (s.le (by omega)) _ fun v n F2 H2 g2 fa2 s2 p ea => ?_
  obtain ⟨n0, n1⟩ := hn n p
  refine ⟨n, by rw [show v = _ from ea], by omega, by omega, fun B' hD => ?_⟩
  obtain ⟨kk, hk⟩ : ∃ kk : Nat, n = (kk : Int) := ⟨n.toNat, by omega⟩
  subst hk
  rw [Int.toNat_natCast]
  have hne : B' ≠ a := fun z => by
    subst z
    exact s2.hn hD
  have hD0 : H B' = none := by
    cases q : H B' with
    | none => rfl
    | some o => exact absurd hD (g2.dm B' (by rw [q]; exact fun z => nomatch z))
  refine lc_range (lo := 0) (n := kk) (fun i H' => ∃ F' us l, Gr (M1 a) F2 H2 F' H' ∧ F' a = none ∧ Src H' a (N - c1 - i * c2) ∧ F' B' = none ∧ H' B' = some (.lst us) ∧ l.length = i ∧ Paired (S F') us l ∧ ∀ (t : Nat) x, l[t]? = some x → P2 t x)
    ⟨F2, [], [], .loc g2.fh hD, fa2, (by rw [Nat.zero_mul, Nat.sub_zero]; exact s2.ex (upd_ne hne.symm)), g2.fh.free hD, upd_same, rfl, .nil, fun t x hx => by simp at hx⟩ ?_ ?_
  · rintro i H' hi ⟨F', us, l, g, fa', s', fD, hD', hl, pu, hP⟩
    have e0 : (0 : Int) + (i : Int) = (i : Int) := Int.zero_add _
    rw [e0]
    refine ⟨hw _, ?_⟩
    have hb : (i + 1) * c2 = i * c2 + c2 := Nat.succ_mul ..
    have hb2 : (i + 1) * c2 ≤ B * c2 := Nat.mul_le_mul_right _ (by omega)
    refine he i (by omega) F' H' (g2.trans g) fa' F' H' (N - c1 - (i + 1) * c2) (.refl g.fh) fa' (s'.le (by omega)) _ fun u y F3 H3 g3 fa3 s3 py r3 => ?_
    have hD3 : H3 B' = some (.lst us) := g3.hh _ _ hne hD'
    have fD3 : F3 B' = none := g3.nw B' hne (by rw [hD']; exact fun z => nomatch z) fD
    refine ⟨us, hD3, ?_, F3, us ++ [u], l ++ [y], (g.trans g3).set' fD3 (.inl hD), fa3, s3.ex (upd_ne hne.symm), fD3, upd_same, by rw [List.length_append, hl]; rfl, (Paired.up g3.ff pu).snoc r3, ?_⟩
    · rw [pu.length, hl, sizeLine_eq]
      omega
    · intro t x hx
      by_cases ht : t < l.length
      · rw [List.getElem?_append_left ht] at hx
        exact hP t x hx
      · have ht2 : t < (l ++ [y]).length := (List.getElem?_eq_some_iff.mp hx).1
        rw [List.length_append] at ht2
        have e1 : t = l.length := by simp at ht2; omega
        subst e1
        rw [List.getElem?_append_right (Nat.le_refl _), Nat.sub_self] at hx
        cases hx
        rw [hl]
        exact py
  · rintro H' ⟨F', us, l, g, fa', s', fD, hD', hl, pu, hP⟩
    have hb2 : kk * c2 ≤ B * c2 := Nat.mul_le_mul_right _ (by omega)
    exact k B' us l _ _ (g2.trans g) fa' (s'.le (by omega)) hne hD0 fD hD' pu ⟨(kk : Int), p, by rw [hl]⟩ hP
end
end El

set_option Elab.async false
set_option linter.all false
set_option maxRecDepth 100000
set_option maxHeartbeats 4000000
namespace El
open PySem PySem.Spec L2
variable [LawTabs]
/-! ### what is above, looked through row by row -/
def outM (ps : List (Nat × Nat)) (x : Nat) : List Nat := (ps.filter fun p => decide (p.1 = x)).map (·.2)
theorem out_mem {ps : List (Nat × Nat)} {x y : Nat} : y ∈ outM ps x ↔ (x, y) ∈ ps := by
  unfold outM
  rw [List.mem_map]
  constructor
  · rintro ⟨⟨a, b⟩, h, rfl⟩
    obtain ⟨h1, h2⟩ := List.mem_filter.mp h
    have : a = x := of_decide_eq_true h2
    subst this
    exact h1
  · intro h
    exact ⟨(x, y), List.mem_filter.mpr ⟨h, decide_eq_true rfl⟩, rfl⟩
theorem out_len {ps : List (Nat × Nat)} {x : Nat} : (outM ps x).length ≤ ps.length := by
  unfold outM
  rw [List.length_map]
  exact List.length_filter_le _ _
def rowM (ps : List (Nat × Nat)) (x : Nat) : List Nat := sortN (uniq (outM ps x))
theorem row_mem {ps : List (Nat × Nat)} {x y : Nat} : y ∈ rowM ps x ↔ (x, y) ∈ ps := by
  unfold rowM
  rw [sort_mem, mem_uniq, out_mem]
theorem row_nd {ps : List (Nat × Nat)} {x : Nat} : (rowM ps x).Nodup := (sort_perm _).nodup_iff.mpr (nodup_uniq _)
structure RowI (ps : List (Nat × Nat)) (x c : Nat) (row : List Nat) : Prop where
  nd : row.Nodup
  snd : ∀ y ∈ row, Blw ps x y
  fst : ∀ y, (x, y) ∈ ps → y ∈ row
  cl : ∀ (i : Nat) y, i < c → row[i]? = some y → ∀ z, (y, z) ∈ ps → z ∈ row
  le : c ≤ row.length
theorem RowI.start {ps : List (Nat × Nat)} {x : Nat} : RowI ps x 0 (rowM ps x) :=
  ⟨row_nd, fun y hy => .one (row_mem.mp hy), fun y hy => row_mem.mpr hy, fun i y hi => absurd hi (Nat.not_lt_zero i), Nat.zero_le _⟩
theorem RowI.step {ps : List (Nat × Nat)} {x c y : Nat} {row : List Nat} (h : RowI ps x c row) (hy : row[c]? = some y) : RowI ps x (c + 1) (row ++ (rowM ps y).filter fun z => !decide (z ∈ row)) := by
  have hyr : y ∈ row := List.mem_of_getElem? hy
  refine ⟨List.nodup_append.mpr ⟨h.nd, row_nd.filter _, fun a ha b hb e => ?_⟩, fun z hz => ?_, fun z hz => List.mem_append_left _ (h.fst z hz), fun i z hi hz u hu => ?_, ?_⟩
  · subst e
    have := (List.mem_filter.mp hb).2
    rw [decide_eq_true ha] at this
    cases this
  · rcases List.mem_append.mp hz with hz | hz
    · exact h.snd z hz
    · exact (h.snd y hyr).trans (.one (row_mem.mp (List.mem_filter.mp hz).1))
  · have hlt : i < row.length := Nat.lt_of_lt_of_le hi (List.getElem?_eq_some_iff.mp hy).1
    rw [List.getElem?_append_left hlt] at hz
    by_cases e : i = c
    · subst e
      rw [hy] at hz
      cases hz
      by_cases q : u ∈ row
      · exact List.mem_append_left _ q
      · exact List.mem_append_right _ (List.mem_filter.mpr ⟨row_mem.mpr hu, by rw [decide_eq_false q]; rfl⟩)
    · exact List.mem_append_left _ (h.cl i z (by omega) hz u hu)
  · have hlt := (List.getElem?_eq_some_iff.mp hy).1
    rw [List.length_append]
    omega
theorem RowI.done {ps : List (Nat × Nat)} {x : Nat} {row : List Nat} (h : RowI ps x row.length row) (y : Nat) : y ∈ row ↔ Blw ps x y := by
  refine ⟨h.snd y, fun hb => ?_⟩
  have cl : ∀ a ∈ row, ∀ z, (a, z) ∈ ps → z ∈ row := fun a ha z hz => by
    obtain ⟨i, hi⟩ := List.mem_iff_getElem?.mp ha
    exact h.cl i a (List.getElem?_eq_some_iff.mp hi).1 hi z hz
  have go : ∀ {a z : Nat}, Blw ps a z → a ∈ row → z ∈ row := fun {a z} q => by
    induction q with
    | one q => exact fun ha => cl _ ha _ q
    | more q _ ih => exact fun ha => ih (cl _ ha _ q)
  cases hb with
  | one q => exact h.fst _ q
  | more q k => exact go k (h.fst _ q)
theorem RowI.len {ps : List (Nat × Nat)} {x c n : Nat} {row : List Nat} (h : RowI ps x c row) (hp : ∀ p ∈ ps, p.1 < n ∧ p.2 < n) : row.length ≤ n := nodup_lt h.nd fun y hy => ((h.snd y hy).lt hp).2
/-- rows of what is above -/
def AbvR (n : Nat) (ps : List (Nat × Nat)) (hs : List (List Nat)) : Prop := hs.length = n ∧ ∀ x, x < n → (hs.getD x []).Nodup ∧ ∀ y, y ∈ hs.getD x [] ↔ Blw ps x y
/-! ### rankings -/
def RkLt (r : List Nat) (a b : Nat) : Prop := ∃ i j : Nat, i < j ∧ r[i]? = some a ∧ r[j]? = some b
theorem rk_idx {r : List Nat} (nd : r.Nodup) {a b : Nat} (h : RkLt r a b) : r.idxOf a < r.idxOf b := by
  obtain ⟨i, j, hij, hi, hj⟩ := h
  obtain ⟨li, ei⟩ := List.getElem?_eq_some_iff.mp hi
  obtain ⟨lj, ej⟩ := List.getElem?_eq_some_iff.mp hj
  rw [← ei, ← ej, nd.idxOf_getElem i li, nd.idxOf_getElem j lj]
  exact hij
theorem rk_mem {r : List Nat} {a b : Nat} (h : RkLt r a b) : a ∈ r ∧ b ∈ r := by
  obtain ⟨i, j, _, hi, hj⟩ := h
  exact ⟨List.mem_of_getElem? hi, List.mem_of_getElem? hj⟩
theorem perm_rng {n : Nat} {r : List Nat} (h : r.Perm (List.range n)) : r.Nodup ∧ r.length = n ∧ ∀ x, x ∈ r ↔ x < n :=
  ⟨h.nodup_iff.mpr List.nodup_range, by rw [h.length_eq, List.length_range], fun x => by rw [h.mem_iff, List.mem_range]⟩
/-- the inner ones -/
theorem cut_inner {r : List Nat} {i x : Nat} (h : (cut r (some 1) (some (-1)))[i]? = some x) : r[i + 1]? = some x ∧ i + 2 < r.length := by
  unfold cut at h
  have e1 : HT.sIx r.length 0 (some 1) = min 1 r.length := HT.sIx_nat r.length 0 1
  have e2 : HT.sIx r.length r.length (some (-1)) = r.length - 1 := by
    show (if (-1 : Int) < 0 then ((-1 : Int) + (r.length : Int)).toNat else min (-1 : Int).toNat r.length) = _
    rw [if_pos (by decide)]
    omega
  rw [e1, e2] at h
  have hl := (List.getElem?_eq_some_iff.mp h).1
  rw [List.length_take, List.length_drop] at hl
  rw [List.getElem?_take_of_lt (by omega), List.getElem?_drop] at h
  have : min 1 r.length = 1 := by omega
  rw [this] at h hl
  rw [Nat.add_comm]
  exact ⟨h, by omega⟩
theorem cut_inner_len {r : List Nat} : (cut r (some 1) (some (-1))).length ≤ r.length := by
  unfold cut
  rw [List.length_take, List.length_drop]
  omega
/-! ### promises with a source and three more -/
def SpS3 (c : Nat) {α β γ δ : Type} (R : Rp α) (R2 : Rp β) (R3 : Rp γ) (Pre : α → β → γ → Prop) (S : Rp δ) (P : α → β → γ → δ → Prop) : Sp := fun vs H Q _ => ∃ F a N v u o x y z, vs = [.ref a, v, u, o] ∧ ExT F H ∧ F a = none ∧ Src H a (N + c) ∧ R F v x ∧ R2 F u y ∧ R3 F o z ∧ Pre x y z ∧
  ∀ w r F' H', Gr (M1 a) F H F' H' → F' a = none → Src H' a N → P x y z r → S F' w r → Q w H'
instance {c : Nat} {α β γ δ : Type} {R : Rp α} {R2 : Rp β} {R3 : Rp γ} {Pre : α → β → γ → Prop} {S : Rp δ} {P : α → β → γ → δ → Prop} : SpLen (SpS3 c R R2 R3 Pre S P) 4 := ⟨fun ⟨_, _, _, _, _, _, _, _, _, h, _⟩ => by rw [h]; rfl⟩
section
variable {K : PySem.W.Frag} {σ : St} {F H F' H' : Hp} {ta tb tc te : TE} {α β γ δ : Type} {R : Rp α} {R2 : Rp β} {R3 : Rp γ} {S : Rp δ} {x : α} {y : β} {z : γ} {E : XK} {a : Addr} {c N : Nat}
theorem es_callP3 {i : Nat} {Pre : α → β → γ → Prop} {P : α → β → γ → δ → Prop} (hv : σ[i]? = some (some (.ref a))) (ha : ∀ F1 H1, Gr (M1 a) F H F1 H1 → F1 a = none → Ev R ta σ F1 H1 x) (hb : ∀ F1 H1, Gr (M1 a) F H F1 H1 → F1 a = none → Ev R2 tb σ F1 H1 y) (hc : ∀ F1 H1, Gr (M1 a) F H F1 H1 → F1 a = none → Ev R3 tc σ F1 H1 z) (hp : Pre x y z) (m : Mn R := by infer_instance) (m2 : Mn R2 := by infer_instance) :
    EvS a c S (tCall (SpS3 c R R2 R3 Pre S P) [] E (tCons (tVar i) (tCons ta (tCons tb (tCons tc tNil))))) σ F H (P x y z) := fun F1 H1 N g fa s Q q => by
  obtain ⟨o, ho⟩ := s.someO
  refine ⟨.ref a, hv, ha F1 H1 g fa F1 H1 (.refl g.fh) _ fun v F2 H2 g2 r => hb F2 H2 (g.trans g2.up) (g2.nn ho fa) F2 H2 (.refl g2.fh) _ fun u F3 H3 g3 r3 => ?_⟩
  have G3 := g2.trans g3
  refine hc F3 H3 (g.trans G3.up) (G3.nn ho fa) F3 H3 (.refl g3.fh) _ fun w F4 H4 g4 r4 => ?_
  have G := G3.trans g4
  exact ⟨F4, a, N, v, u, w, x, y, z, rfl, g4.fh, G.nn ho fa, s.gr G, m.mono (g3.ff.trans g4.ff) r, m2.mono g4.ff r3, r4, hp, fun w r F' H' g' fa' s' p' r' => q w r F' H' (G.up.trans g') fa' s' p' r'⟩
end
end El

set_option Elab.async false
set_option linter.all false
set_option maxRecDepth 100000
set_option maxHeartbeats 4000000
namespace El
open PySem PySem.Spec L2
variable [LawTabs]
theorem atI_last {α : Type} {xs : List α} {x : α} (h : xs[xs.length - 1]? = some x) : atI xs (-1) = some x := by
  have hl := (List.getElem?_eq_some_iff.mp h).1
  unfold atI ixN
  rw [if_neg (by decide), if_pos (by omega)]
  rw [show ((-1 : Int) + (xs.length : Int)).toNat = xs.length - 1 by omega]
  exact h
theorem erase_map {α β : Type} (f : α → β) : ∀ (l : List α) (d : Nat), (l.map f).eraseIdx d = (l.eraseIdx d).map f
  | [], _ => rfl
  | _ :: _, 0 => rfl
  | a :: l, d + 1 => by
    show f a :: (l.map f).eraseIdx d = f a :: (l.eraseIdx d).map f
    rw [erase_map f l d]
section
variable {K : PySem.W.Frag} {σ : St} {F H F' H' : Hp} {ta tb tc te : TE} {α β γ δ : Type} {R : Rp α} {S : Rp β} {x : α} {y : β} {D : Ends} {a : Addr} {c N : Nat}
/-- list(range(n)), written at behind it -/
theorem x_lstRgM {n i : Nat} (e : ExT F H) (h : Ev rInt ta σ F H (n : Int)) (hn : n ≤ 1000000) (k : ∀ l F' H', Gr M0 F H F' H' → H' l = none → D.nx (σ.set i (some (.ref l))) (upd H' l (.lst ((List.range n).map fun n : Nat => V.int (n : Int))))) : tAsg (tLstRg (tRg1 ta)) (gName i) D σ H :=
  h F H (.refl e) _ fun v F2 H2 g2 e => ⟨n, e, .of_le (by omega) (by omega) (by omega) (by omega), fun B hB => by
    have := k B F2 H2 g2 hB
    rw [← nats_eq (rgV_paired (H := F2) n)] at this
    exact this⟩
/-- a branch, and what stands behind it, shown once -/
theorem x_ifH {tt : TT} {ts tu : TS} {b : Bool} (J : St → Hp → Prop) (hJ : ∀ σ H, J σ H → D.nx σ H) (e : ExT F H) (h : EvT tt σ F H b) (k1 : (∀ σ H, J σ H → D.nx σ H) → b = true → ∀ F' H', Gr M0 F H F' H' → ts D σ H') (k2 : (∀ σ H, J σ H → D.nx σ H) → b = false → ∀ F' H', Gr M0 F H F' H' → tu D σ H') : tIfS tt ts tu D σ H :=
  x_if e h (k1 hJ) (k2 hJ)
/-- tuple(l) of a list that is written at -/
theorem ev_tupM {l : Addr} {ns : List Nat} (ha : Ev rRef ta σ F H l) (hl : H l = some (.lst (ns.map fun n : Nat => V.int (n : Int)))) : Ev (rTup rNat) (tCB (rTupS K) (tCons ta tNil)) σ F H ns := fun F1 H1 g1 Q q =>
  ha F1 H1 g1 _ fun v F2 H2 g2 r => ⟨l, _, by rw [show v = _ from r], .inl ⟨SqL.of (g2.hx _ _ (g1.hx _ _ hl)), fun B hB => q _ _ _ (g2.trans (.new g2.fh hB)) ⟨B, _, rfl, upd_same, nats_P _ _⟩⟩⟩
end
end El

set_option Elab.async false
set_option linter.all false
set_option maxRecDepth 100000
set_option maxHeartbeats 4000000
namespace El
open PySem PySem.Spec L2
variable [LawTabs]
section
variable {K : PySem.W.Frag} {σ : St} {F H F' H' : Hp} {ta tb tc te tl : TE} {α β γ : Type} {R : Rp α} {S : Rp β} {U : Rp γ} {D : Ends} {a : Addr} {c N : Nat}
theorem es_toNat {P : Int → Prop} (h : EvS a c rInt te σ F H P) (hp : ∀ z, P z → 0 ≤ z) : EvS a c rNat te σ F H (fun n => P (n : Int)) := fun F1 H1 N g fa s Q q =>
  h F1 H1 N g fa s _ fun v z F2 H2 g2 fa2 s2 p r => by
    obtain ⟨n, rfl⟩ : ∃ n : Nat, z = (n : Int) := ⟨z.toNat, by have := hp z p; omega⟩
    exact q v n F2 H2 g2 fa2 s2 p r
theorem ev_lcP (f : α × β → γ) {ps : List (α × β)} {n j : Nat} {vs : List Nat} (h : Ev (rLst (rPr R S)) tl σ F H ps) (hz : ps.length ≤ 1000000) (hw : ∀ v w, wipe (((wipe σ vs).set n (some v)).set j (some w)) vs = wipe σ vs)
    (he : ∀ (i : Nat) x v w F1 H1, ps[i]? = some x → Gr M0 F H F1 H1 → R F1 v x.1 → S F1 w x.2 → Ev U te (((wipe σ vs).set n (some v)).set j (some w)) F1 H1 (f x)) (m : Mn R := by infer_instance) (m2 : Mn S := by infer_instance) (m' : Mn U := by infer_instance) :
    Ev (rLst U) (tLc (iList K tl) (gTup K 2 (gCons (gName n) (gCons (gName j) gNil))) tYes te vs) σ F H (ps.map f) :=
  Ev.is (ev_lcPF (R := R) (S := S) (U := U) (fun _ => true) f h hz hw (fun _ _ _ _ _ _ _ _ _ _ => et_yes) (fun i x v w F1 H1 hx _ g r1 r2 => he i x v w F1 H1 hx g r1 r2)) (by rw [List.filter_eq_self.mpr fun _ _ => rfl])
theorem ev_p3 {te : TE} {R : Rp α} {p : α × α × α} (h : Ev (r3 R R R) te σ F H p) : Ev (rTup R) te σ F H [p.1, p.2.1, p.2.2] := h.as fun F v ⟨a, x, y, z, e, h1, r1, r2, r3⟩ => ⟨a, [x, y, z], e, h1, .cons r1 (.cons r2 (.cons r3 .nil))⟩
end
/-! ### orders by rankings -/
theorem OrdR.congr {n : Nat} {hs : List (List Nat)} {B B' : Nat → Nat → Prop} (h : ∀ x y, B x y ↔ B' x y) (o : OrdR n hs B) : OrdR n hs B' := by
  have : B = B' := funext fun x => funext fun y => propext (h x y)
  rw [← this]
  exact o
theorem good_of {n : Nat} {ps : List (Nat × Nat)} (h1 : 1 ≤ n) (h2 : n ≤ 32) (hl : ps.length ≤ 100) (hp : ∀ p ∈ ps, p.1 < n ∧ p.2 < n) (hi : ∀ x, ¬ Blw ps x x) : GoodO n ps :=
  ⟨h1, h2, hl, fun p h => ⟨(hp p h).1, (hp p h).2, fun e => hi p.1 (.one (by rw [show (p.1, p.1) = p from Prod.ext rfl e]; exact h))⟩, fun p hpn hm => hi p (((above_rel hp hi).mem p hpn p).mp hm)⟩
theorem goodK_of {t : Tn} {hs : List (List Nat)} {B : Nat → Nat → Prop} (o : OrdR t.many hs B) : GoodK t hs :=
  ⟨o.len, fun x hx y hy => o.lt x hx y ((o.mem x hx y).mp hy), fun x hx => Nat.lt_of_le_of_lt (Nat.le_trans (o.row_len hx) t.h1) (by decide)⟩
def wholeM (n : Nat) (hs : List (List Nat)) : List (Nat × Nat) := ((List.range n).map fun x => (hs.getD x []).map fun y => (x, y)).flatten
theorem whole_succ {n : Nat} {hs : List (List Nat)} : wholeM (n + 1) hs = wholeM n hs ++ (hs.getD n []).map fun y => (n, y) := flat_succ (fun x => (hs.getD x []).map fun y => (x, y)) n
theorem whole_mem {n x y : Nat} {hs : List (List Nat)} : (x, y) ∈ wholeM n hs ↔ x < n ∧ y ∈ hs.getD x [] := by
  unfold wholeM
  rw [List.mem_flatten]
  constructor
  · rintro ⟨l, hl, h⟩
    obtain ⟨z, hz, rfl⟩ := List.mem_map.mp hl
    obtain ⟨u, hu, e⟩ := List.mem_map.mp h
    cases e
    exact ⟨List.mem_range.mp hz, hu⟩
  · rintro ⟨h1, h2⟩
    exact ⟨_, List.mem_map.mpr ⟨x, List.mem_range.mpr h1, rfl⟩, List.mem_map.mpr ⟨y, h2, rfl⟩⟩
theorem whole_len {hs : List (List Nat)} {c : Nat} : ∀ n, (∀ x, x < n → (hs.getD x []).length ≤ c) → (wholeM n hs).length ≤ n * c
  | 0, _ => Nat.zero_le _
  | n + 1, h => by
    rw [whole_succ, List.length_append, List.length_map, Nat.succ_mul]
    have h1 := whole_len n fun x hx => h x (by omega)
    have h2 := h n (by omega)
    omega
theorem whole_blw {n : Nat} {ps : List (Nat × Nat)} {hs : List (List Nat)} (hp : ∀ p ∈ ps, p.1 < n ∧ p.2 < n) (ha : AbvR n ps hs) {x y : Nat} : Blw (wholeM n hs) x y ↔ Blw ps x y := by
  constructor
  · exact Blw.sub fun a b h => by
      obtain ⟨h1, h2⟩ := whole_mem.mp h
      exact ((ha.2 a h1).2 b).mp h2
  · intro h
    have hx := (h.lt hp).1
    exact .one (whole_mem.mpr ⟨hx, ((ha.2 x hx).2 y).mpr h⟩)
theorem abv_len {n : Nat} {ps : List (Nat × Nat)} {hs : List (List Nat)} (hp : ∀ p ∈ ps, p.1 < n ∧ p.2 < n) (ha : AbvR n ps hs) {x : Nat} (hx : x < n) : (hs.getD x []).length ≤ n := nodup_lt (ha.2 x hx).1 fun y hy => ((((ha.2 x hx).2 y).mp hy).lt hp).2
/-- the three orders -/
theorem three_orders {n : Nat} {r : List Nat} {ps : List (Nat × Nat)} {hs : List (List Nat)} (hn0 : 1 ≤ n) (hn7 : n ≤ 7) (hr : r.Perm (List.range n)) (hl : ps.length ≤ 40) (hk : ∀ p ∈ ps, RkLt r p.1 p.2) (ha : AbvR n ps hs) :
    (∀ p ∈ ps, p.1 < n ∧ p.2 < n) ∧ GoodO n ps ∧ GoodO n (turnP ps) ∧ GoodO n (wholeM n hs) ∧ OrdR n (aboveM n ps) (Blw ps) ∧ OrdR n (aboveM n (turnP ps)) (fun x y => Blw ps y x) ∧ OrdR n (aboveM n (wholeM n hs)) (Blw ps) := by
  obtain ⟨rnd, rlen, rm⟩ := perm_rng hr
  have hp : ∀ p ∈ ps, p.1 < n ∧ p.2 < n := fun p h => ⟨(rm _).mp (rk_mem (hk p h)).1, (rm _).mp (rk_mem (hk p h)).2⟩
  have irr : ∀ x, ¬ Blw ps x x := fun x h => Nat.lt_irrefl _ (h.rank (fun z => r.idxOf z) fun p hp => rk_idx rnd (hk p hp))
  have hp' : ∀ p ∈ turnP ps, p.1 < n ∧ p.2 < n := fun p h => by
    obtain ⟨q, hq, rfl⟩ := List.mem_map.mp h
    exact ⟨(hp q hq).2, (hp q hq).1⟩
  have irr' : ∀ x, ¬ Blw (turnP ps) x x := fun x h => irr x (blw_turn.mp h)
  have hpw : ∀ p ∈ wholeM n hs, p.1 < n ∧ p.2 < n := fun p h => by
    obtain ⟨h1, h2⟩ := whole_mem.mp (show (p.1, p.2) ∈ wholeM n hs from h)
    exact ⟨h1, ((((ha.2 p.1 h1).2 p.2).mp h2).lt hp).2⟩
  have irw : ∀ x, ¬ Blw (wholeM n hs) x x := fun x h => irr x ((whole_blw hp ha).mp h)
  have wl := whole_len (hs := hs) (c := n) n fun x hx => abv_len hp ha hx
  have wl2 : n * n ≤ 7 * 7 := Nat.mul_le_mul hn7 hn7
  exact ⟨hp, good_of hn0 (by omega) (by omega) hp irr, good_of hn0 (by omega) (by unfold turnP; rw [List.length_map]; omega) hp' irr', good_of hn0 (by omega) (by omega) hpw irw,
    above_rel hp irr, (above_rel hp' irr').congr fun x y => blw_turn, (above_rel hpw irw).congr fun x y => whole_blw hp ha⟩
/-- what a turned order doesn't keep -/
theorem turned_bad {t : Tn} {hs hs' : List (List Nat)} {B : Nat → Nat → Prop} (o : OrdR t.many hs B) (o' : OrdR t.many hs' fun x y => B y x) {p : Nat × Nat × Nat} (hp : notKeptM t hs = some p) :
    ∃ q, notKeptM t hs' = some q ∧ q.1 = p.1 ∧ q.1 < t.maps.length ∧ q.2.1 < t.many ∧ q.2.2 < t.many ∧ q.2.1 ≠ q.2.2 ∧ atMostM hs q.2.2 q.2.1 = true ∧ atMostM hs ((t.maps.getD q.1 []).getD q.2.2 0) ((t.maps.getD q.1 []).getD q.2.1 0) = false := by
  have hs1 := o.sgn_turned o'
  rw [hp] at hs1
  cases hq : notKeptM t hs' with
  | none => rw [hq] at hs1; cases hs1
  | some q =>
    obtain ⟨s, x, y⟩ := q
    rw [hq] at hs1
    obtain ⟨h1, h2, h3, h4⟩ := not_some hq
    have hb := (o'.mem x h2 y).mp h3
    have hy := o'.lt x h2 y hb
    refine ⟨_, rfl, Option.some.inj hs1, h1, h2, hy, fun e => ?_, (o.most hy).mpr (.inr hb), ?_⟩
    · have e : x = y := e
      subst e
      exact o.irr x hb
    · rw [← o.turned o' (map_val h1 hy) (map_val h1 h2)]
      exact h4
theorem none_turned {t : Tn} {hs hs' : List (List Nat)} {B : Nat → Nat → Prop} (o : OrdR t.many hs B) (o' : OrdR t.many hs' fun x y => B y x) : (notKeptM t hs').isNone = (notKeptM t hs).isNone := by
  have h := o.sgn_turned o'
  cases h1 : notKeptM t hs <;> cases h2 : notKeptM t hs' <;> rw [h1, h2] at h <;> first | rfl | cases h
end El

set_option Elab.async false
set_option linter.all false
set_option maxRecDepth 100000
set_option maxHeartbeats 4000000
namespace El
open PySem PySem.Spec L2 LamX NdefX PyProof.Rows
/-! ### a lambda with parameters that captures: its promise -/
/-- the function object at f is the lambda of F's words, its body an expression -/
def LamAt (h : Heap) (f : Addr) (F : NF) (body : Expr) : Prop := ∃ (od : Option Addr) (sl : Array (Option Value)) (pm ctv : Value), h.get? f = some (⟨.type "function", od, .func (PySem.W.kla_fn F.name F.qual F.params body F.scope F.cl pm (.ref F.c) ctv), sl⟩ : Obj)
structure LOk (P : Program) (w : World) (K : PySem.W.Frag) (mg : Str → Option Value) (base : Heap) (CX : CXT) (k : Nat) (f : Addr) (F : NF) (body : Expr) (ps fr : List Str) (sp : List (Option V) → Sp) : Prop where
  len : ∀ ws vs H Q E, sp ws vs H Q E → vs.length = ps.length
  run : ∀ (A : Around) (outer : List Env) (s : Shared) (H : Hp) (us : List Value) (vs : List V) (ws : List (Option V)) (Q : VK) (E : XK), Room k A → Env0 P w K mg base A outer s H → LamAt s.heap f F body → H F.c = some (CodeO F.c F.qual) →
    CellsAt F.cl fr ws s.heap H → Vals vs us → sp ws vs H Q E → codeAny (model P w) A (.call (.ref f) ⟨us, []⟩) (CR CX outer P w H s Q E) s
section
variable {CX : CXT} {P : Program} {w : World} {K : PySem.W.Frag} {mg : Str → Option Value} {base : Heap} {N ps fr : List Str} {F : NF} {body : Expr} {f : Addr} {k j : Nat} {sp : List (Option V) → Sp}
/-- THE RULE: a lambda by its body -/
theorem lok_of (S : NScope N ps fr F.scope) (hb : ∀ (pm ctv : Value) (us : List Value), us.length = ps.length → bindArgs (PySem.W.kla_fn F.name F.qual F.params body F.scope F.cl pm (.ref F.c) ctv) ⟨us, []⟩ = pure (ps.zip us)) (len : ∀ ws vs H Q E, sp ws vs H Q E → vs.length = ps.length)
    (hbody : ∀ (A : Around) (outer : List Env) (s : Shared) (H : Hp) (vs : List V) (ws : List (Option V)) (Q : VK) (E : XK), Room k (A.deeper (envF F f s.heap.objs.size)) → H F.c = some (CodeO F.c F.qual) → ws.length = fr.length → sp ws vs H Q E →
      ∃ t, PE (ncx CX P w K mg base N F f A outer s H E) body t ∧ t (startF N vs ws) H Q) : LOk P w K mg base CX (k + 1) f F body ps fr sp := by
  refine ⟨len, fun A outer s H us vs ws Q E hr e0 ⟨od, sl, pm, ctv, ho⟩ hc C r hsp => ?_⟩
  have hl := len _ _ _ _ _ hsp
  have lim : s.heap.NoLimit := e0.mod.nolimit.keeps fun b o e => (e0.bs b o e).1
  refine PySem.W.kla_callFunE hr.depth ho rfl S.co S.gen rfl (codeO_at e0.hok hc) ?_
  rw [hb pm ctv us (by rw [← r.length]; exact hl)]
  refine wpAny_pure (wpAny_newFunctionEnv S.nocell (fun ⟨n, _⟩ hy => S.par n (List.of_mem_zip hy).1) (fun h₁ hns hsb => ⟨lim.fresh _ hsb, ?_⟩) S.kind)
  show codeAny _ _ (.expr body (envF F f s.heap.objs.size)) _ _
  have kp : ∀ b o, s.heap.get? b = some o → h₁.get? b = some o := fun b o e => hsb.extBut b o (Nat.ne_of_lt (Heap.lt_size e)) (Heap.get?_push_of_some _ e)
  obtain ⟨t, ht, hq⟩ := hbody A outer s H vs ws Q E (hr.deeper _) hc C.len hsp
  have I : Inv (ncx CX P w K mg base N F f A outer s H E) [] (startF N vs ws) H { s with heap := h₁, toks := s.toks + (ps.zip us).length } := inv_startN S hr.hd e0 hl r C hns kp
  refine PySem.W.kla_codeExpr (wpAny_mono (ht.run [] _ _ H Q I hq) (fun v s' hq => ?_) fun e s' hq => hq)
  obtain ⟨w', H', J', rv, q⟩ := hq
  exact ⟨w', H', J'.os, J'.bare, J'.base, J'.hok, rv, q⟩
end
section
variable {X : Cx} {CX : CXT} {pins : List (Addr × Obj)} {σ : L2.St} {H : Hp} {s : Shared} {F : NF} {body : Expr} {f : Addr} {ps fr : List Str} {ws : List (Option V)} {i j k : Nat} {x : Str} {sp : List (Option V) → Sp} {E : XK} {t : TA} {e : Expr} {es : List Expr} {p pos : Pos}
theorem lam_keep (I : Inv X pins σ H s) (hL : LamAt X.s_0.heap f F body) (hn : X.H_0 f = none) (hf : f ∉ X.fs) (hx : f ∉ X.ex) : LamAt s.heap f F body := by
  obtain ⟨od, sl, pm, ctv, ho⟩ := hL
  exact ⟨od, sl, pm, ctv, I.base.keep f _ ho hn hf hx⟩
/-- a lambda handed in, called: X is the frame of the def that got it -/
structure Got (X : Cx) (f : Addr) (F : NF) (body : Expr) (fr : List Str) (ws : List (Option V)) : Prop where
  lam : LamAt X.s_0.heap f F body
  new : X.H_0 f = none
  nfr : f ∉ X.fs
  nex : f ∉ X.ex
  cells : CellsAt F.cl fr ws X.s_0.heap X.H_0
  cfr : ∀ y c, F.cl.lookup y = some c → c ∉ X.fs
  cex : ∀ y c, F.cl.lookup y = some c → c ∉ X.ex
theorem pe_callc (Fn : LOk X.prog X.w X.K X.mg X.base CX k f F body ps fr sp) (G : Got X f F body fr ws) (hr : Room j X.A) (hk : k ≤ j) (hx : Passes CX X E) (hN : X.N[i]? = some x) (hv : Vis X.env.scope x) (ha : PA X (e :: es) t)
    (hd : (x == ("__debug__" : Str)) = false := by decide) (hcd : (x == ("__classdict__" : Str)) = false := by decide)
    (he : starEach (e :: es) X.env = (false, eval e X.env) :: starEach es X.env := by rfl) (hpl : (backTo pos (starEach es X.env)).any (·.1) = false := by rfl) :
    PE X (.Call (.Name x p) (e :: es) [] pos) (fun σ H Q => σ[i]? = some (some (.ref f)) ∧ t σ H fun vs H1 => H1 F.c = some (CodeO F.c F.qual) ∧ sp ws vs H1 Q E) := by
  refine ⟨fun pins s σ H Q I h => ?_⟩
  obtain ⟨hs, ht⟩ := h
  refine wpAny_Call_Name_kw (thn ((pe_var (pos := p) hN hv hd hcd).run pins s σ H (fun v H1 => v = .ref f ∧ H1 = H) I ⟨.ref f, hs, rfl, rfl⟩) fun u s1 ⟨v, H1, I1, r1, q1⟩ => ?_)
  obtain ⟨ev, eH⟩ := q1
  subst ev
  rw [eH] at I1
  obtain rfl : u = Value.ref f := r1
  have at_ : ∀ {pins : List (Addr × Obj)} {σ : L2.St} {H : Hp} {s : Shared}, Inv X pins σ H s → PySem.W.FnAt f s.heap := fun I => by
    obtain ⟨od, sl, pm, ctv, ho⟩ := lam_keep I G.lam G.new G.nfr G.nex
    exact ⟨_, od, _, sl, ho⟩
  refine PySem.W.callWith_F (first := []) (at_ I1) (thn (ha.run pos pins s1 σ H _ I1 ht) fun us s2 ⟨vs, H2, I2, r, h1, q⟩ => ⟨at_ I2, ?_⟩) he hpl
  show wpAny _ _ (call (.ref f) us) _ _ _
  refine wpAny_call (codeAny_mono (Fn.run X.A X.stack s2 H2 us vs ws Q E (hr.mono hk) I2.env0 (lam_keep I2 G.lam G.new G.nfr G.nex) h1 (G.cells.later G.cfr G.cex I2) r q) fun r s' hq => ?_)
  cases r with
  | error e => exact hx pins σ H2 s2 e s' I2 hq
  | ok fl =>
    cases fl with
    | ret u => exact I2.after hq
    | next => exact False.elim hq
    | brk => exact False.elim hq
    | cont => exact False.elim hq
end
end El

set_option Elab.async false
set_option linter.all false
set_option maxRecDepth 100000
set_option maxHeartbeats 4000000
namespace El
open PySem PySem.Spec L2 LamX NdefX PyProof.Rows
/-! ### what may be called, told of the state at which it came in -/
/-- f may be called: c is its code object, of the name q; it stands so in all states that grow from (h0, H0) behind the frames fs -/
structure LCall (P : Program) (w : World) (K : PySem.W.Frag) (mg : Str → Option Value) (base : Heap) (CX : CXT) (k : Nat) (fs : List Addr) (h0 : Heap) (H0 : Hp) (f c : Addr) (q : Str) (n : Nat) (lsp : Sp) : Prop where
  at_ : ∀ (H : Hp) (h : Heap), Un fs [] H0 H h0 h → PySem.W.FnAt f h
  len : ∀ vs H Q E, lsp vs H Q E → vs.length = n
  run : ∀ (A : Around) (outer : List Env) (s : Shared) (H : Hp) (us : List Value) (vs : List V) (Q : VK) (E : XK), Room k A → Env0 P w K mg base A outer s H → Un fs [] H0 H h0 s.heap → H c = some (CodeO c q) → Vals vs us → lsp vs H Q E →
    codeAny (model P w) A (.call (.ref f) ⟨us, []⟩) (CR CX outer P w H s Q E) s
theorem cells_un {fs : List Addr} {h0 h : Heap} {H0 H : Hp} {cl : List (Str × Addr)} {fr : List Str} {ws : List (Option V)} (C : CellsAt cl fr ws h0 H0) (nf : ∀ y c, cl.lookup y = some c → c ∉ fs) (u : Un fs [] H0 H h0 h) : CellsAt cl fr ws h H := by
  have kp : ∀ y c, cl.lookup y = some c → ∀ v, h0.IsCell c v → h.IsCell c v := fun y c e v ⟨o, ho, hd⟩ => ⟨o, u.keep c o ho (C.all y c e).1 (nf y c e) (by simp), hd⟩
  refine ⟨C.len, fun y c e => ?_, C.inj, fun i y e => ?_⟩
  · obtain ⟨n, v, z⟩ := C.all y c e
    refine ⟨?_, v, kp y c e v z⟩
    obtain ⟨o, ho, _⟩ := z
    exact u.free c o ho n (by simp)
  · obtain ⟨c, hc, hv⟩ := C.has i y e
    refine ⟨c, hc, fun v ev => ?_⟩
    obtain ⟨u1, r, z⟩ := hv v ev
    exact ⟨u1, r, kp y c hc _ z⟩
section
variable {CX : CXT} {P : Program} {w : World} {K : PySem.W.Frag} {mg : Str → Option Value} {base : Heap} {N ps fr : List Str} {F : NF} {body : Expr} {f g c : Addr} {k kl n : Nat} {sp : List (Option V) → Sp} {fs : List Addr} {h0 : Heap} {H0 : Hp} {ws : List (Option V)}
/-- a lambda just made -/
theorem lcall_of (Fn : LOk P w K mg base CX k f F body ps fr sp) (lam : LamAt h0 f F body) (new : H0 f = none) (nf : f ∉ fs) (C : CellsAt F.cl fr ws h0 H0) (cf : ∀ y c, F.cl.lookup y = some c → c ∉ fs) : LCall P w K mg base CX k fs h0 H0 f F.c F.qual ps.length (sp ws) := by
  have lam' : ∀ {H : Hp} {h : Heap}, Un fs [] H0 H h0 h → LamAt h f F body := fun u => by
    obtain ⟨od, sl, pm, ctv, ho⟩ := lam
    exact ⟨od, sl, pm, ctv, u.keep f _ ho new nf (by simp)⟩
  refine ⟨fun H h u => ?_, fun vs H Q E h => Fn.len _ _ _ _ _ h, fun A outer s H us vs Q E hr e0 u hc r h => ?_⟩
  · obtain ⟨od, sl, pm, ctv, ho⟩ := lam' u
    exact ⟨_, od, _, sl, ho⟩
  · exact Fn.run A outer s H us vs ws Q E hr e0 (lam' u) hc (cells_un C cf u) r h
/-- a def that is handed such a thing -/
structure LFn (P : Program) (w : World) (K : PySem.W.Frag) (mg : Str → Option Value) (base : Heap) (CX : CXT) (k kl : Nat) (g : Addr) (fd : FuncData) (ps : List Str) (n : Nat) (sp : Addr → Addr → Str → Sp → Sp) : Prop where
  len : ∀ f c q lsp vs H Q E, sp f c q lsp vs H Q E → vs.length = ps.length
  run : ∀ (A : Around) (outer : List Env) (s : Shared) (H : Hp) (us : List Value) (vs : List V) (Q : VK) (E : XK) (f c : Addr) (q : Str) (lsp : Sp), Room k A → Env0 P w K mg base A outer s H → LCall P w K mg base CX kl (frs outer) s.heap H f c q n lsp →
    BindsTo s fd ⟨us, []⟩ (ps.zip us) → Vals vs us → sp f c q lsp vs H Q E → codeAny (model P w) A (.call (.ref g) ⟨us, []⟩) (CR CX outer P w H s Q E) s
theorem lfn_of {name qual : Str} {params : Arguments} {bg : List Stmt} {scope : Scope} {dV kV doc pm cdv ct oc : Value} {an od : Option Addr} {osl : Array (Option Value)} {spg : Addr → Addr → Str → Sp → Sp}
    (lk : K.lookup g = some ⟨oc, od, .func (PySem.W.fnOf name qual params bg scope dV kV doc pm an cdv ct), osl⟩) (hcd : PySem.W.codeIn K cdv qual = true) (S : FnScope N ps scope) (len : ∀ f c q lsp vs H Q E, spg f c q lsp vs H Q E → vs.length = ps.length)
    (hbody : ∀ (A : Around) (outer : List Env) (s : Shared) (H : Hp) (vs : List V) (Q : VK) (E : XK) (f c : Addr) (q : Str) (lsp : Sp), Room k (A.deeper (envOfC qual scope s.heap.objs.size g cdv)) → LCall P w K mg base CX kl (frs outer) s.heap H f c q n lsp → spg f c q lsp vs H Q E →
      ∃ t, PSs (cxOf CX P w K mg base N qual scope g cdv A outer s H E) bg t ∧ t { nx := fun _ H' => Q .non H', rt := Q } (L2.start N vs) H) :
    LFn P w K mg base CX (k + 1) kl g (PySem.W.fnOf name qual params bg scope dV kV doc pm an cdv ct) ps n spg :=
  ⟨len, fun A outer s H us vs Q E f c q lsp hr e0 L hb r h => run_ofS lk hcd S hr e0 hb r (len _ _ _ _ _ _ _ _ h) fun hr' => hbody A outer s H vs Q E f c q lsp hr' L h⟩
end
section
variable {X : Cx} {CX : CXT} {f c : Addr} {q : Str} {n i j k : Nat} {x : Str} {lsp : Sp} {E : XK} {t : TA} {e : Expr} {es : List Expr} {p pos : Pos}
/-- its call, in the frame of the def that got it -/
theorem pe_lcall (L : LCall X.prog X.w X.K X.mg X.base CX k X.fs X.s_0.heap X.H_0 f c q n lsp) (hex : X.ex = []) (hr : Room j X.A) (hk : k ≤ j) (hx : Passes CX X E) (hN : X.N[i]? = some x) (hv : Vis X.env.scope x) (ha : PA X (e :: es) t)
    (hd : (x == ("__debug__" : Str)) = false := by decide) (hcd : (x == ("__classdict__" : Str)) = false := by decide)
    (he : starEach (e :: es) X.env = (false, eval e X.env) :: starEach es X.env := by rfl) (hpl : (backTo pos (starEach es X.env)).any (·.1) = false := by rfl) :
    PE X (.Call (.Name x p) (e :: es) [] pos) (fun σ H Q => σ[i]? = some (some (.ref f)) ∧ t σ H fun vs H1 => H1 c = some (CodeO c q) ∧ lsp vs H1 Q E) := by
  refine ⟨fun pins s σ H Q I h => ?_⟩
  obtain ⟨hs, ht⟩ := h
  refine wpAny_Call_Name_kw (thn ((pe_var (pos := p) hN hv hd hcd).run pins s σ H (fun v H1 => v = .ref f ∧ H1 = H) I ⟨.ref f, hs, rfl, rfl⟩) fun u s1 ⟨v, H1, I1, r1, q1⟩ => ?_)
  obtain ⟨ev, eH⟩ := q1
  subst ev
  rw [eH] at I1
  obtain rfl : u = Value.ref f := r1
  have un : ∀ {pins : List (Addr × Obj)} {σ : L2.St} {H : Hp} {s : Shared}, Inv X pins σ H s → Un X.fs [] X.H_0 H X.s_0.heap s.heap := fun I => by
    have := I.base
    rw [hex] at this
    exact this
  refine PySem.W.callWith_F (first := []) (L.at_ _ _ (un I1)) (thn (ha.run pos pins s1 σ H _ I1 ht) fun us s2 ⟨vs, H2, I2, r, h1, q2⟩ => ⟨L.at_ _ _ (un I2), ?_⟩) he hpl
  show wpAny _ _ (call (.ref f) us) _ _ _
  refine wpAny_call (codeAny_mono (L.run X.A X.stack s2 H2 us vs Q E (hr.mono hk) I2.env0 (un I2) h1 r q2) fun r s' hq => ?_)
  cases r with
  | error e => exact hx pins σ H2 s2 e s' I2 hq
  | ok fl =>
    cases fl with
    | ret u => exact I2.after hq
    | next => exact False.elim hq
    | brk => exact False.elim hq
    | cont => exact False.elim hq
end
end El

set_option Elab.async false
set_option linter.all false
set_option maxRecDepth 100000
set_option maxHeartbeats 4000000
namespace El
open PySem PySem.Spec L2 LamX NdefX PyProof.Rows
section
variable {X : Cx} {CX : CXT} {T : List (Addr × Str)} {x y : Str} {g c P : Addr} {kg kl n : Nat} {fd : FuncData} {gps lps fr : List Str} {js : List Nat} {spg : Addr → Addr → Str → Sp → Sp} {lsp : Addr → Addr → List (Option V) → Sp} {E : XK}
  {e1 : Expr} {t1 : TE} {v3 : V} {u3 : Value} {params : Arguments} {body : Expr} {scope : Scope} {lpos p py pos : Pos}
theorem cell_nofr {pins : List (Addr × Obj)} {σ : L2.St} {H : Hp} {s : Shared} (I : Inv X pins σ H s) {z : Str} {b : Addr} (hz : X.env.cells.lookup z = some b) (hf : X.fn z = true) : b ∉ frs X.stack := fun hb => by
  rcases List.mem_cons.mp (I.stkSub b hb) with e | e
  · exact I.cne z b hz e
  · obtain ⟨_, o, ho, _⟩ := I.ok.funs.mem e
    exact absurd (Nat.lt_of_lt_of_le (Heap.lt_size ho) (I.ok.cab z b hf hz)) (Nat.lt_irrefl _)
/-- g(e1, lambda ..: body, NAME) -/
def tLam3 (T : List (Addr × Str)) (q : Str) (js : List Nat) (spg : Addr → Addr → Str → Sp → Sp) (lsp : Addr → Addr → List (Option V) → Sp) (v3 : V) (E : XK) (t1 : TE) : TE := fun σ H Q => t1 σ H fun v1 H1 => Tabs T H1 ∧ ∀ (f c' : Addr) (H2 : Hp), ExtN H1 H2 → Tabs T H2 → H2 f = none → H2 c' = some (CodeO c' q) →
  spg f c' q (lsp f c' (js.map (slotAt σ))) [v1, .ref f, v3] H2 Q E
theorem pe_lam3 (G : LFn X.prog X.w X.K X.mg X.base CX kg kl g fd gps n spg) (hrg : Room kg X.A) (hg : Gl X x) (hm : X.mg x = some (.ref g)) (hk : PySem.W.keepIn X.K (.ref g) = true) (hb : L2.Binds X.K fd gps []) (hgl : gps.length = 3) (hx : Passes CX X E)
    (TB : TabB X.base X.mg c P) (hcode : X.env.code = .ref c) (hmT : (P, X.env.qual ++ "<lambda>") ∈ T) (hu : ∀ p ∈ T, p.1 = P → p.2 = X.env.qual ++ "<lambda>") (hdef : defaultsOf params X.env = ([], []))
    (hfree : ∀ y ∈ scope.names, y.2 = .free → X.env.scope.names.lookup y.1 = some .cell ∨ X.env.scope.names.lookup y.1 = some .free) (hfn : ∀ y ∈ scope.names, y.2 = .free → X.fn y.1 = true) (hfr : ∀ y ∈ fr, (y, NameKind.free) ∈ scope.names) (hjs : js.map (fun j => X.N[j]?) = fr.map some)
    (Fn : ∀ f c', LOk X.prog X.w X.K X.mg X.base CX kl f ⟨"<lambda>", X.env.qual ++ "<lambda>", params, [], scope, cloFrom X.env.cells scope.names [], c'⟩ body lps fr (lsp f c')) (hn : lps.length = n)
    (h1 : PE X e1 t1) (hgy : Gl X y) (hmy : X.mg y = some u3) (r3 : RelV v3 u3)
    (he : starEach [e1, .Lambda params body scope lpos, .Name y py] X.env = [(false, eval e1 X.env), (false, eval (.Lambda params body scope lpos) X.env), (false, eval (.Name y py) X.env)] := by rfl)
    (hs : starEach [e1, .Lambda params body scope lpos, .Name y py] X.env = (false, eval e1 X.env) :: starEach [.Lambda params body scope lpos, .Name y py] X.env := by rfl) (hpl : (backTo pos (starEach [.Lambda params body scope lpos, .Name y py] X.env)).any (·.1) = false := by rfl)
    (hdb : (x == ("__debug__" : Str)) = false := by decide) (hdy : (y == ("__debug__" : Str)) = false := by decide) :
    PE X (.Call (.Name x p) [e1, .Lambda params body scope lpos, .Name y py] [] pos) (tLam3 T (X.env.qual ++ "<lambda>") js spg lsp v3 E t1) := by
  refine ⟨fun pins s σ H Q I h => ?_⟩
  refine wpAny_Call_Name_kw (ld_glob I hg hm ?_ hdb)
  refine PySem.W.callWith_K (h₀ := X.base) I.ok.mod.kin hk ?_ hs hpl
  rw [he]
  show wpAny _ _ (spliced ((false, eval e1 X.env) :: (false, eval (.Lambda params body scope lpos) X.env) :: (false, eval (.Name y py) X.env) :: [])) _ _ s
  refine Calls.spliced_cons (thn (h1.run pins s σ H _ I h) fun u1 s1 ⟨v1, H1, I1, r1, hT, q⟩ => ?_)
  have hf : ∀ y ∈ scope.names, y.2 = .free → ∃ c, X.env.cells.lookup y.1 = some c := fun y hy e => (hfree y hy e).elim (fun z => I1.ok.has _ (.inl z)) fun z => I1.ok.has _ (.inr z)
  refine Calls.spliced_cons (lam_make2 I1 TB hcode hmT hu hT hdef hf fun f c' pm ctv H2 s2 I2 eN T2 ho hn2 hfrs hco => ?_)
  refine Calls.spliced_cons (ld_glob I2 hgy hmy ?_ hdy)
  refine Calls.spliced_nil ⟨I2.kIn, ?_⟩
  have L : LCall X.prog X.w X.K X.mg X.base CX kl (frs X.stack) s2.heap H2 f c' (X.env.qual ++ "<lambda>") n (lsp f c' (js.map (slotAt σ))) := by
    rw [← hn]
    exact lcall_of (F := ⟨"<lambda>", X.env.qual ++ "<lambda>", params, [], scope, cloFrom X.env.cells scope.names [], c'⟩) (Fn f c') ⟨_, _, pm, ctv, ho⟩ hn2 hfrs (cells_of I2 (Caps.made I2.ok hfree hfr hjs)) fun z b e => by
      have hc := clo_cm hf e
      rcases cloFrom_mem (PySem.mem_of_lookup e) with hm | ⟨m1, _⟩
      · cases hm
      · exact cell_nofr I2 hc (hfn _ m1 rfl)
  refine wpAny_call (codeAny_mono (G.run X.A X.stack s2 H2 [u1, .ref f, u3] [v1, .ref f, v3] Q E f c' _ _ hrg I2.env0 L (hb s2 _ I2.kIn (by rw [hgl]; rfl)) (.cons r1 (.cons rfl (.cons r3 .nil))) (q f c' H2 eN T2 hn2 hco)) fun r s3 hq => ?_)
  cases r with
  | error e => exact hx pins σ H2 s2 e s3 I2 hq
  | ok fl =>
    cases fl with
    | ret u => exact I2.after hq
    | next => exact False.elim hq
    | brk => exact False.elim hq
    | cont => exact False.elim hq
end
end El

set_option Elab.async false
set_option linter.all false
set_option maxRecDepth 100000
set_option maxHeartbeats 4000000
namespace El
open PySem PySem.Spec L2 LamX NdefX PyProof.Rows
variable [LawTabs]
/-- what the making of a lambda does to the layer's two heaps: its code object is new and frozen, the table longer by it -/
theorem Gr.code {F H : Hp} {P c : Addr} {q : Str} {ps : Array Value} {pos : Pos} (e : ExT F H) (hm : (P, q) ∈ LawTabs.T) (hu : ∀ p ∈ LawTabs.T, p.1 = P → p.2 = q) (hP : H P = some (.tbl ps)) (ht : TriplesOk ps.toList) (nC : H c = none) :
    Gr M0 F H (upd F c (CodeO c q)) (upd (upd H P (.tbl (ps ++ #[rawInt pos.line, rawInt pos.col, .ref c]))) c (CodeO c q)) := by
  have fC : F c = none := e.free nC
  have nPc : P ≠ c := fun z => by rw [z, nC] at hP; cases hP
  have eL : (ps ++ #[rawInt pos.line, rawInt pos.col, .ref c]).toList = ps.toList ++ [rawInt pos.line, rawInt pos.col, .ref c] := by simp
  have ffx : Ex F (upd F c (CodeO c q)) := Ex.new fC
  refine ⟨ffx, ⟨fun b o hb => ?_, fun p hp => ?_, fun b xs hb => ?_⟩, fun b o _ nt hb => ?_, fun b _ hb nb => ?_, fun b hb => ?_, e.t0⟩
  · by_cases z : b = c
    · subst z; rw [upd_same] at hb ⊢; exact hb
    · rw [upd_ne z] at hb ⊢
      have zP : b ≠ P := fun z => by
        subst z
        have := (e.tb _ hm).1
        rw [show F b = none from this] at hb
        cases hb
      rw [upd_ne zP]
      exact e b o hb
  · obtain ⟨h0, ps', h1, h2, h3⟩ := e.tb p hp
    have npc : p.1 ≠ c := fun z => by rw [z, nC] at h1; cases h1
    refine ⟨by rw [upd_ne npc]; exact h0, ?_⟩
    by_cases z : p.1 = P
    · rw [z, hu p hp z, upd_ne nPc, upd_same]
      refine ⟨_, rfl, by rw [eL]; exact PySem.TriplesOk_snoc _ _ _ _ ht, fun pos' cv hcv => ?_⟩
      rw [eL] at hcv
      rw [z, hP] at h1
      cases h1
      rcases among_app _ ht hcv with y | y
      · obtain ⟨c0, e1, e2⟩ := h3 pos' cv y
        rw [hu p hp z] at e2
        exact ⟨c0, e1, ffx _ _ e2⟩
      · exact ⟨c, y, upd_same⟩
    · rw [upd_ne npc, upd_ne z]
      exact ⟨ps', h1, h2, fun pos' cv hcv => by
        obtain ⟨c0, e1, e2⟩ := h3 pos' cv hcv
        exact ⟨c0, e1, ffx _ _ e2⟩⟩
  · by_cases z : b = c
    · subst z; rw [upd_same] at hb ⊢; exact hb
    · rw [upd_ne z] at hb ⊢
      by_cases y : b = P
      · subst y; rw [upd_same] at hb; cases hb
      · rw [upd_ne y] at hb; exact e.tt b xs hb
  · have z : b ≠ c := fun z => by rw [z, nC] at hb; cases hb
    rw [upd_ne z, upd_ne (fun y => nt _ hm y.symm)]
    exact hb
  · have z : b ≠ c := fun z => hb (by rw [z]; exact nC)
    rw [upd_ne z]
    exact nb
  · by_cases z : b = c
    · subst z; rw [upd_same]; exact fun x => nomatch x
    · rw [upd_ne z]
      by_cases y : b = P
      · subst y; rw [upd_same]; exact fun x => nomatch x
      · rw [upd_ne y]; exact hb
section
variable {X : Cx} {pins : List (Addr × Obj)} {σ : L2.St} {F H : Hp} {s : Shared}
/-- a lambda is made, told by the layer's two heaps -/
theorem lam_make3 {c P : Addr} {q : Str} {params : Arguments} {body : Expr} {scope : Scope} {pos : Pos} {E : Value → Shared → Prop} {Q : Value → Shared → Prop} (I : Inv X pins σ H s) (e : ExT F H) (TB : TabB X.base X.mg c P) (hcode : X.env.code = .ref c)
    (hq : X.env.qual ++ "<lambda>" = q) (hm : (P, q) ∈ LawTabs.T) (hu : ∀ p ∈ LawTabs.T, p.1 = P → p.2 = q) (hdef : defaultsOf params X.env = ([], [])) (hfree : ∀ y ∈ scope.names, y.2 = .free → ∃ c, X.env.cells.lookup y.1 = some c)
    (h : ∀ (f c' : Addr) (pm ctv : Value) (F' H' : Hp) (s' : Shared), Inv X pins σ H' s' → Gr M0 F H F' H' →
      s'.heap.get? f = some (PySem.W.kla_obj "<lambda>" q params body scope (cloFrom X.env.cells scope.names []) pm c' ctv) → H' f = none → f ∉ frs X.stack → F' c' = some (CodeO c' q) → Q (.ref f) s') :
    wpAny (model X.prog X.w) X.A (eval (.Lambda params body scope pos) X.env) Q E s := by
  subst hq
  obtain ⟨hF, ps, hP, ht, ha⟩ := e.tb _ hm
  have hF : F P = none := hF
  have hP : H P = some (.tbl ps) := hP
  refine PySem.W.kla_eval hdef ?_
  have bP : s.heap.BuiltinsAt X.mg P := TB.bm.keeps I.bk
  have hP' : s.heap.get? P = some { cls := .none, data := .fields ps } := I.hok P _ hP
  have nofr : ∀ f, s.heap.objs.size ≤ f → f ∉ frs X.stack := fun f hf z => by
    rcases List.mem_cons.mp (I.stkSub _ z) with y | y
    · have h1 := I.lt
      rw [← y] at h1
      exact Nat.lt_irrefl _ (Nat.lt_of_lt_of_le h1 hf)
    · exact I.nofs hf y
  cases hc : codeAmong pos ps.toList with
  | none =>
    refine PySem.W.kla_makeFunction (mg := X.mg) (c := c) (P := P) (ps := ps) (closure_ok hfree) I.ok.glob (I.mod.glob.keeps I.bk) hcode (TB.code.keeps I.bk) hP' ht hc TB.gP bP fun c' ctv h' tk hx hge hlt hrec htb => ?_
    obtain ⟨_, oc, vs, t, e2, hoc, hd, hv⟩ := hrec
    cases e2
    have hsz : s.heap.objs.size ≤ h'.objs.size := Nat.le_trans hge (Nat.le_of_lt hlt)
    have nC : H c' = none := I.hok.fresh hge
    refine h h'.objs.size c' ((X.mg "__name__").getD .none) ctv _ _ _ (inv_table (t' := tk) (more := #[rawInt pos.line, rawInt pos.col, .ref c']) I hP (fun b o hb e => Heap.get?_push_of_some _ (hx b o hb e)) (Heap.get?_push_of_some _ htb) hge ⟨oc, vs, t, Heap.get?_push_of_some _ hoc, hd, hv⟩) (Gr.code e hm hu hP ht nC) (Heap.get?_push_size _ rfl) ?_ (nofr _ hsz) upd_same
    rw [upd_ne (Nat.ne_of_gt hlt), upd_ne (Nat.ne_of_gt (Nat.lt_of_lt_of_le (Heap.lt_size hP') hsz))]
    exact I.hok.fresh hsz
  | some cv =>
    obtain ⟨c', e1, hco⟩ := ha pos cv hc
    subst e1
    refine PySem.W.kla_makeFunctionHit (mg := X.mg) (c := c) (P := P) (ps := ps) (closure_ok hfree) I.ok.glob (I.mod.glob.keeps I.bk) hcode (TB.code.keeps I.bk) hP' ht hc bP fun ctv h' tk hx hsz => ?_
    have I1 : Inv X pins σ H { s with heap := h'.push (PySem.W.kla_obj "<lambda>" (X.env.qual ++ "<lambda>") params body scope (cloFrom X.env.cells scope.names []) ((X.mg "__name__").getD .none) c' ctv), toks := tk } := I.kept fun b o e => Heap.get?_push_of_some _ (hx b o e)
    exact h h'.objs.size c' ((X.mg "__name__").getD .none) ctv F H _ I1 (.refl e) (Heap.get?_push_size _ rfl) (I.hok.fresh hsz) (nofr _ hsz) hco
end
end El

set_option Elab.async false
set_option linter.all false
set_option maxRecDepth 100000
set_option maxHeartbeats 4000000
namespace El
open PySem PySem.Spec L2 LamX NdefX PyProof.Rows
variable [LawTabs]
theorem ExT.nt {F H : Hp} (e : ExT F H) {a : Addr} {o : HO} (h : H a = some o) (n : ∀ ps, o ≠ .tbl ps := by intro _ z; cases z) : NoTab a := notab_of e.t0 h n
section
variable {X : Cx} {CX : CXT} {x y : Str} {g c P : Addr} {kg kl n : Nat} {fd : FuncData} {gps lps fr : List Str} {js : List Nat} {spg : Addr → Addr → Str → Sp → Sp} {lsp : Addr → Addr → List (Option V) → Sp} {E : XK}
  {e1 : Expr} {t1 : TE} {v3 : V} {u3 : Value} {params : Arguments} {body : Expr} {scope : Scope} {lpos p py pos : Pos}
/-- g(e1, lambda ..: body, NAME) -/
def tLam4 (q : Str) (js : List Nat) (spg : Addr → Addr → Str → Sp → Sp) (lsp : Addr → Addr → List (Option V) → Sp) (v3 : V) (E : XK) (t1 : TE) : TE := fun σ H Q => t1 σ H fun v1 H1 => ∃ F1, ExT F1 H1 ∧ ∀ (f c' : Addr) (F2 H2 : Hp), Gr M0 F1 H1 F2 H2 → H2 f = none → F2 c' = some (CodeO c' q) →
  spg f c' q (lsp f c' (js.map (slotAt σ))) [v1, .ref f, v3] H2 Q E
theorem pe_lam4 (G : LFn X.prog X.w X.K X.mg X.base CX kg kl g fd gps n spg) (hrg : Room kg X.A) (hg : Gl X x) (hm : X.mg x = some (.ref g)) (hk : PySem.W.keepIn X.K (.ref g) = true) (hb : L2.Binds X.K fd gps []) (hgl : gps.length = 3) (hx : Passes CX X E)
    (TB : TabB X.base X.mg c P) (hcode : X.env.code = .ref c) (hmT : (P, X.env.qual ++ "<lambda>") ∈ LawTabs.T) (hu : ∀ p ∈ LawTabs.T, p.1 = P → p.2 = X.env.qual ++ "<lambda>") (hdef : defaultsOf params X.env = ([], []))
    (hfree : ∀ y ∈ scope.names, y.2 = .free → X.env.scope.names.lookup y.1 = some .cell ∨ X.env.scope.names.lookup y.1 = some .free) (hfn : ∀ y ∈ scope.names, y.2 = .free → X.fn y.1 = true) (hfr : ∀ y ∈ fr, (y, NameKind.free) ∈ scope.names) (hjs : js.map (fun j => X.N[j]?) = fr.map some)
    (Fn : ∀ f c', LOk X.prog X.w X.K X.mg X.base CX kl f ⟨"<lambda>", X.env.qual ++ "<lambda>", params, [], scope, cloFrom X.env.cells scope.names [], c'⟩ body lps fr (lsp f c')) (hn : lps.length = n)
    (h1 : PE X e1 t1) (hgy : Gl X y) (hmy : X.mg y = some u3) (r3 : RelV v3 u3)
    (he : starEach [e1, .Lambda params body scope lpos, .Name y py] X.env = [(false, eval e1 X.env), (false, eval (.Lambda params body scope lpos) X.env), (false, eval (.Name y py) X.env)] := by rfl)
    (hs : starEach [e1, .Lambda params body scope lpos, .Name y py] X.env = (false, eval e1 X.env) :: starEach [.Lambda params body scope lpos, .Name y py] X.env := by rfl) (hpl : (backTo pos (starEach [.Lambda params body scope lpos, .Name y py] X.env)).any (·.1) = false := by rfl)
    (hdb : (x == ("__debug__" : Str)) = false := by decide) (hdy : (y == ("__debug__" : Str)) = false := by decide) :
    PE X (.Call (.Name x p) [e1, .Lambda params body scope lpos, .Name y py] [] pos) (tLam4 (X.env.qual ++ "<lambda>") js spg lsp v3 E t1) := by
  refine ⟨fun pins s σ H Q I h => ?_⟩
  refine wpAny_Call_Name_kw (ld_glob I hg hm ?_ hdb)
  refine PySem.W.callWith_K (h₀ := X.base) I.ok.mod.kin hk ?_ hs hpl
  rw [he]
  show wpAny _ _ (spliced ((false, eval e1 X.env) :: (false, eval (.Lambda params body scope lpos) X.env) :: (false, eval (.Name y py) X.env) :: [])) _ _ s
  refine Calls.spliced_cons (thn (h1.run pins s σ H _ I h) fun u1 s1 ⟨v1, H1, I1, r1, F1, eT, q⟩ => ?_)
  have hf : ∀ y ∈ scope.names, y.2 = .free → ∃ c, X.env.cells.lookup y.1 = some c := fun y hy e => (hfree y hy e).elim (fun z => I1.ok.has _ (.inl z)) fun z => I1.ok.has _ (.inr z)
  refine Calls.spliced_cons (lam_make3 I1 eT TB hcode rfl hmT hu hdef hf fun f c' pm ctv F2 H2 s2 I2 g2 ho hn2 hfrs hco => ?_)
  refine Calls.spliced_cons (ld_glob I2 hgy hmy ?_ hdy)
  refine Calls.spliced_nil ⟨I2.kIn, ?_⟩
  have L : LCall X.prog X.w X.K X.mg X.base CX kl (frs X.stack) s2.heap H2 f c' (X.env.qual ++ "<lambda>") n (lsp f c' (js.map (slotAt σ))) := by
    rw [← hn]
    exact lcall_of (F := ⟨"<lambda>", X.env.qual ++ "<lambda>", params, [], scope, cloFrom X.env.cells scope.names [], c'⟩) (Fn f c') ⟨_, _, pm, ctv, ho⟩ hn2 hfrs (cells_of I2 (Caps.made I2.ok hfree hfr hjs)) fun z b e => by
      have hc := clo_cm hf e
      rcases cloFrom_mem (PySem.mem_of_lookup e) with hm | ⟨m1, _⟩
      · cases hm
      · exact cell_nofr I2 hc (hfn _ m1 rfl)
  refine wpAny_call (codeAny_mono (G.run X.A X.stack s2 H2 [u1, .ref f, u3] [v1, .ref f, v3] Q E f c' _ _ hrg I2.env0 L (hb s2 _ I2.kIn (by rw [hgl]; rfl)) (.cons r1 (.cons rfl (.cons r3 .nil))) (q f c' F2 H2 g2 hn2 hco)) fun r s3 hq => ?_)
  cases r with
  | error e => exact hx pins σ H2 s2 e s3 I2 hq
  | ok fl =>
    cases fl with
    | ret u => exact I2.after hq
    | next => exact False.elim hq
    | brk => exact False.elim hq
    | cont => exact False.elim hq
end
end El

set_option Elab.async false
set_option linter.all false
set_option maxRecDepth 100000
set_option maxHeartbeats 4000000
namespace El
open PySem PySem.Spec L2 PyProof.Rows
/-! ### dicts with tuples as keys: a walk by items -/
section
variable {X : Cx} {pins : List (Addr × Obj)} {σ : L2.St} {H : Hp} {s : Shared} {d : Addr} {o : Obj}
theorem rawT {kvs : List (List Key × V)} (I : Inv X pins σ H s) (h : Rd H d (.dT kvs)) :
    (d == sysModules) = false ∧ kvs.length ≤ sizeLine ∧ ∃ (o : Obj) (es : Array DictEntry) (ep : Nat), s.heap.get? d = some o ∧ o.ExactDict ∧ o.data = .dict es ep ∧ es.size = kvs.length ∧
      ∀ (i : Nat) (k : List Key) (v : V), kvs[i]? = some (k, v) → ∃ (en : DictEntry) (q : Addr), es[i]? = some en ∧ en.key = .ref q ∧ H q = some (.tup (k.map kV)) ∧ RelV v en.val := by
  obtain ⟨z, hs, xs, pr, o, es, ep, ho, hx, hdt, he, _⟩ := (show ObjOk X.prog X.w H s.heap d (.dT kvs) from h.ok I.hok)
  have l1 : es.size = xs.length := size_of_entries he
  have l2 : kvs.length = xs.length := Paired.length pr
  refine ⟨hs, z, o, es, ep, ho, hx, hdt, by omega, fun i k v e => ?_⟩
  obtain ⟨b, hb, e1, e2, e3⟩ := paired_get pr e
  have q := entry_at he i
  rw [hb] at q
  exact ⟨_, b.2.1, q, rfl, e2, e3⟩
theorem frzT2 {kvs : List (List Key × V)} (I : Inv X pins σ H s) (h : H d = some (.frz o (.dT kvs))) :
    (d == sysModules) = false ∧ s.heap.get? d = some o ∧ o.ExactDict ∧ ∃ (es : Array DictEntry) (ep : Nat), o.data = .dict es ep ∧ es.size = kvs.length ∧
      ∀ (i : Nat) (k : List Key) (v : V), kvs[i]? = some (k, v) → ∃ (en : DictEntry) (q : Addr), es[i]? = some en ∧ en.key = .ref q ∧ H q = some (.tup (k.map kV)) ∧ RelV v en.val := by
  obtain ⟨hd, _⟩ := I.hok d _ h
  obtain ⟨hs, _, o', es, ep, ho, hx, hdt, r⟩ := rawT I (.inr ⟨o, h⟩)
  rw [hd] at ho
  cases ho
  exact ⟨hs, hd, hx, es, ep, hdt, r⟩
end
/-- the pairs of a locked dict with tuples as keys, each a new tuple of the key's own tuple and the value -/
def ItiT (d : Addr) (o : Obj) (kvs : List (List Key × V)) : It :=
  ⟨fun i H => H d = some (.frz o (.dT kvs)) ∧ i < kvs.length, fun i H x H' => ∃ (T : Addr) (k : List Key) (v : V) (q : Addr), kvs[i]? = some (k, v) ∧ x = .ref T ∧ H T = none ∧ H q = some (.tup (k.map kV)) ∧ H' = upd H T (.tup [.ref q, v]), fun i H => H d = some (.frz o (.dT kvs)) ∧ kvs.length ≤ i⟩
section
variable {P : Program} {w : World} {K : PySem.W.Frag} {d : Addr} {o : Obj} {es : Array DictEntry} {ep : Nat}
theorem turn_itemsT {kvs : List (List Key × V)} {elts : List Expr} {kk : Nat} {tpos : Pos} (it : Addr) (hod : o.data = .dict es ep) (hz : es.size = kvs.length) :
    Turn P w K (.Tuple elts kk tpos) (ItiT d o kvs) [it] it (fun i h => ∃ ok ov, IsItemIter h it d i es.size ep ok ov) where
  mem := by simp
  obj := fun i h st b hb => by
    obtain ⟨ok, ov, e⟩ := st
    rw [show b = it by simpa using hb]
    exact ⟨_, e, fun v z => nomatch z⟩
  keep := fun i h h' st k => let ⟨ok, ov, e⟩ := st; ⟨ok, ov, k it (by simp) _ e⟩
  item := by
    intro X hP hw hK hc i pins s σ H E I hf st hg
    subst hP hw hK
    obtain ⟨hd, hi⟩ := hg
    obtain ⟨hs, hgd, hx, es', ep', hdt, hsz, ent⟩ := frzT2 I hd
    obtain ⟨rfl, rfl⟩ := dict_ep hod hdt
    obtain ⟨⟨k, v⟩, hkv⟩ : ∃ p, kvs[i]? = some p := ⟨_, List.getElem?_eq_getElem hi⟩
    obtain ⟨en, q, hen, hkey, hq, hv⟩ := ent i k v hkv
    obtain ⟨ok, ov, he⟩ := st
    have hlt : it < s.heap.objs.size := Heap.lt_size he
    have hi2 : i < es'.size := by omega
    have een : es'[i] = en := by
      rw [Array.getElem?_eq_getElem hi2] at hen
      exact Option.some.inj hen
    refine DT.nextI he ⟨o, hgd, hx, hod⟩ hi2 fun h' ho hT hz' hk => ?_
    rw [een] at ho hT
    refine ⟨_, rfl, wpAny_letOwnedTupleGo_items (s := { s with heap := h' }) ho fun h'' he' sb => ?_⟩
    have hT2 : h''.get? s.heap.objs.size = some { cls := .type "tuple", data := .seq #[en.key, en.val] } := (sb.2 _ (Nat.ne_of_gt hlt)).trans hT
    have new : ObjOk X.prog X.w (upd H s.heap.objs.size (.tup [.ref q, v])) h'' s.heap.objs.size (.tup [.ref q, v]) :=
      ⟨by show 2 ≤ sizeLine; decide, [en.key, en.val], .cons hkey (.cons hv .nil), ⟨_, hT2, rfl, _, rfl⟩⟩
    have I1 : Inv X pins σ (upd H s.heap.objs.size (.tup [.ref q, v])) { s with heap := h'' } :=
      I.turnedNew (t' := s.toks) (ch := [it]) (fun b ob hb e => (sb.2 b (by simpa using hb)).trans (hk b ob (by simpa using hb) e)) hf (Nat.le_refl _) new
    refine ⟨.ref s.heap.objs.size, _, I1, rfl, ⟨_, k, v, q, hkv, rfl, I.hok.fresh (Nat.le_refl _), hq, rfl⟩, ⟨_, _, he'⟩, fun b hb => ?_⟩
    rw [show b = it by simpa using hb, upd_ne (Nat.ne_of_lt hlt)]
    exact (hf it (by simp)).1
  done := by
    intro X hP hw hK hc i pins s σ H E I hf st hg
    subst hP hw hK
    obtain ⟨hd, hi⟩ := hg
    obtain ⟨f0, f1, f2, f3, f4, f5⟩ := hf it (by simp)
    obtain ⟨hs, hgd, hx, es', ep', hdt, hsz, ent⟩ := frzT2 I hd
    obtain ⟨rfl, rfl⟩ := dict_ep hod hdt
    obtain ⟨ok, ov, he⟩ := st
    exact DT.endI (I.ok.hd hc) he ⟨o, hgd, hx, hod⟩ (by omega) fun h' eb => ⟨rfl, I.turned (t' := s.toks) (fun b ob hb e => eb b ob hb e) f0 f1 f3 f4 f5⟩
  self := fun A i s Q E st h => let ⟨_, _, e⟩ := st; PySem.W.kcp_self e h
end
/-- d.items(), d locked -/
def iItemsT (td : TE) : TI := fun σ H R => td σ H fun x H1 => ∃ d o kvs, x = .ref d ∧ H1 d = some (.frz o (.dT kvs)) ∧ R (ItiT d o kvs) H1
section
variable {X : Cx} {e : Expr} {td : TE} {apos cpos : Pos}
theorem pi_itemsT {elts : List Expr} {kk : Nat} {tpos : Pos} (he : PE X e td) (hbase : attributeBase e "items" X.env (eval e X.env) = eval e X.env := by rfl) (hline : (apos.endLine == cpos.line) = true := by rfl) :
    PI X (.Tuple elts kk tpos) (.Call (.Attribute e "items" apos) [] [] cpos) (iItemsT td) := by
  refine ⟨fun pins s σ H R I h => ?_⟩
  refine wpAny_Call_method (T := "dict") (id := "dict.items") hbase rfl hline PySem.F.plainAttrs_dict PySem.F.slot_dict_items PySem.F.type_dict_items (thn (he.run pins s σ H _ I h) fun u s1 ⟨x, H1, I1, rx, d, o, kvs, ex, hd, q⟩ => ?_)
  subst ex
  obtain rfl : u = Value.ref d := rx
  obtain ⟨hs, hgd, hx, es, ep, hdt, hsz, ent⟩ := frzT2 I1 hd
  have raw : DT.Raw s1.heap d es ep := ⟨o, hgd, hx, hdt⟩
  refine ⟨raw.typeIs, fun b eb => ?_, ?_⟩
  · cases eb
    exact ⟨o, hgd, hx.2.1⟩
  have I2 : Inv X pins σ H1 { s1 with heap := s1.heap.push { cls := .type "dict_items", data := .fields #[.ref d] } } := I1.kept (t' := s1.toks) fun b ob q => Heap.get?_push_of_some _ q
  have fin : wpAny (model X.prog X.w) X.A (pyIter (.ref s1.heap.objs.size)) (PIE X pins σ (.Tuple elts kk tpos) R) X.xe { s1 with heap := s1.heap.push { cls := .type "dict_items", data := .fields #[.ref d] } } := by
    refine DT.iterI (d := d) ⟨_, Heap.get?_push_size _ rfl, rfl, rfl⟩ (raw.push _) (pi_one (tk := s1.toks) I2 _ (turn_itemsT _ hdt hsz) ⟨.none, .none, ?_⟩ q)
    exact Heap.get?_push_size _ rfl
  show wpAny _ _ (callWith cpos (.builtin "dict.items") [.ref d] [] []) _ X.xe s1
  exact method_meetsIn PySem.F.slot_dict_items PySem.F.entry_dict_items rfl (PySem.evalArgs_none ⟨rfl, raw.typeIs, PySem.F.args_dict_items_1 _, _, DT.meetsItems hs, ⟨raw, fin⟩⟩)
end

/-! ### a display of one pair, its key a tuple -/
def tDisp1T (tk tv : TE) : TE := fun σ H Q => ∀ p, H p = none → tk σ (upd H p (.dT [])) fun x H1 => tv σ H1 fun y H2 => ∃ (b : Addr) (k : List Key), x = .ref b ∧ H2 b = some (.tup (k.map kV)) ∧ H2 p = some (.dT []) ∧ Q (.ref p) (upd H2 p (.dT [(k, y)]))
section
variable {X : Cx} {e1 e2 : Expr} {tk tv : TE} {pos : Pos}
theorem pe_disp1T (hu : X.A.units + 1 < cLine) (hk : PE X e1 tk) (hv : PE X e2 tv) : PE X (.Dict [some e1] [e2] pos) (tDisp1T tk tv) := by
  refine ⟨fun pins s σ H Q I q => ?_⟩
  have hn := I.hok.fresh (Nat.le_refl s.heap.objs.size)
  have I1 := I.laid (a := s.heap.objs.size) (o := .dT []) (h' := s.heap.push { cls := .type "dict", data := .dict #[] }) (t' := s.toks) (fun _ _ q => Heap.get?_push_of_some _ q) (Nat.le_refl _) (dt_empty s.heap I.big)
  rw [arm_eval_Dict, zip_pairTrees [some e1] [e2] X.env pos rfl rfl, dictDisplay_pairs (pairTrees [some e1] [e2] X.env pos) (by intro z; cases z) (by show 1 < 17; decide)]
  refine wpAny_bind (wpAny_standAt (wpAny_bind (wpAny_subDictH (knd := tupleKind (mixKind X.prog X.w)) (Q := fun d s' => wpAny (model X.prog X.w) X.A (pure (Value.ref d)) _ X.xe s') (show X.A.units < cLine by omega) (by show 1 ≤ 15; decide) ?_)))
  have q0 : tPairs [(tk, tv)] σ (upd H s.heap.objs.size (.dT [])) fun ps H2 => ∃ x y, ps = [(x, y)] ∧ ∃ (b : Addr) (k : List Key), x = .ref b ∧ H2 b = some (.tup (k.map kV)) ∧ H2 s.heap.objs.size = some (.dT []) ∧ Q (.ref s.heap.objs.size) (upd H2 s.heap.objs.size (.dT [(k, y)])) := by
    have mono : ∀ {t : TE} {H : Hp} {A B : VK}, PE X e1 t ∨ True → t σ H A → (A = B) → t σ H B := fun _ h z => z ▸ h
    refine mono (.inr trivial) (q _ hn) ?_
    funext x H1
    refine congrArg (tv σ H1) ?_
    funext y H2
    apply propext
    constructor
    · rintro ⟨b, k, h1, h2, h3, h4⟩
      exact ⟨x, y, rfl, b, k, h1, h2, h3, h4⟩
    · rintro ⟨x', y', e, b, k, h1, h2, h3, h4⟩
      cases e
      exact ⟨b, k, h1, h2, h3, h4⟩
  refine thn ((pps_cons hk hv pps_nil).run pins _ σ _ _ I1 q0) fun ws s2 ⟨ps, H2, I2, rel, x, y, ep, b, k, ex, hb, hp, q2⟩ => ?_
  subst ep ex
  cases rel with
  | @cons _ pr _ _ h t =>
    cases t
    obtain ⟨u1, u2⟩ := pr
    obtain ⟨r1, r2⟩ := h
    cases (show u1 = Value.ref b from r1)
    obtain ⟨z, hs, xs0, rel0, dd⟩ := dt_of I2.hok hp
    cases rel0
    refine ⟨[(k, b, u2)], ⟨rfl, rfl, key_of I2.hok hb, trivial⟩, dd, fun h' tk' dd' hs' => wpAny_pure ⟨.ref s.heap.objs.size, upd H2 s.heap.objs.size (.dT [(k, y)]), ?_, rfl, q2⟩⟩
    obtain ⟨o, es, ep', a1, a2, a3, a4, _, a5⟩ := dd'
    have hne : b ≠ s.heap.objs.size := fun z => by rw [z, hp] at hb; cases hb
    refine d_write I2 (by rw [hp]; exact True.intro) hs' ⟨o, a1⟩ ⟨by show 1 ≤ sizeLine; decide, hs, [(k, b, u2)], .cons ⟨rfl, by rw [upd_ne hne]; exact hb, r2⟩ .nil, o, es, ep', a1, a2, a3, a4, a5⟩
end
end El

set_option Elab.async false
set_option linter.all false
set_option maxRecDepth 100000
set_option maxHeartbeats 4000000
namespace El
open PySem PySem.Spec L2
variable [LawTabs]
/-! ### dicts with tuples of places as keys, outside of F -/
def kyN (m : List Nat) : List Key := m.map fun n : Nat => (Sum.inl (n : Int) : Key)
theorem kyN_inj : ∀ {a b : List Nat}, kyN a = kyN b → a = b
  | [], [], _ => rfl
  | [], _ :: _, h => by cases h
  | _ :: _, [], h => by cases h
  | x :: a, y :: b, h => by
    unfold kyN at h
    rw [List.map_cons, List.map_cons] at h
    injection h with h1 h2
    injection h1 with h3
    rw [kyN_inj h2, show x = y by omega]
theorem kyN_V (m : List Nat) : (kyN m).map kV = m.map fun n : Nat => V.int (n : Int) := by
  unfold kyN
  rw [List.map_map]
  rfl
theorem rTup_ky {F : Hp} {v : V} {m : List Nat} (r : rTup rNat F v m) : ∃ b, v = .ref b ∧ F b = some (.tup ((kyN m).map kV)) := by
  obtain ⟨a, vs, e, h, p⟩ := r
  exact ⟨a, e, by rw [h, kyN_V, nats_eq p]⟩
theorem ky_rTup {F : Hp} {b : Addr} {m : List Nat} (h : F b = some (.tup ((kyN m).map kV))) : rTup rNat F (.ref b) m := ⟨b, _, rfl, h, by rw [kyN_V]; exact nats_P _ _⟩
section
variable {β γ : Type}
def lookM (ks : List (List Nat × β)) (m : List Nat) : Option β := (ks.find? fun p => decide (p.1 = m)).map (·.2)
def putM (ks : List (List Nat × β)) (m : List Nat) (y : β) : List (List Nat × β) := if (lookM ks m).isSome = true then ks.map (fun p => if p.1 = m then (p.1, y) else p) else ks ++ [(m, y)]
theorem lookM_nil {m : List Nat} : lookM ([] : List (List Nat × β)) m = none := rfl
theorem lookM_pos {p : List Nat × β} {r : List (List Nat × β)} {m : List Nat} (e : p.1 = m) : lookM (p :: r) m = some p.2 := by
  unfold lookM
  rw [List.find?_cons, decide_eq_true e]
  rfl
theorem lookM_neg {p : List Nat × β} {r : List (List Nat × β)} {m : List Nat} (e : ¬ p.1 = m) : lookM (p :: r) m = lookM r m := by
  unfold lookM
  rw [List.find?_cons, decide_eq_false e]
theorem lookM_mem {m : List Nat} : ∀ {ks : List (List Nat × β)}, (lookM ks m).isSome = true ↔ m ∈ ks.map (·.1)
  | [] => by rw [lookM_nil]; exact ⟨(fun h => nomatch h), (fun h => nomatch h)⟩
  | p :: r => by
    rw [List.map_cons, List.mem_cons]
    by_cases e : p.1 = m
    · rw [lookM_pos e]
      exact ⟨fun _ => .inl e.symm, fun _ => rfl⟩
    · rw [lookM_neg e, lookM_mem]
      exact ⟨.inr, fun h => h.elim (fun z => absurd z.symm e) id⟩
theorem lookM_none {m : List Nat} {ks : List (List Nat × β)} : lookM ks m = none ↔ m ∉ ks.map (·.1) := by
  rw [← lookM_mem]
  cases lookM ks m with
  | none => exact ⟨(fun _ h => nomatch h), fun _ => rfl⟩
  | some y => exact ⟨(fun h => nomatch h), fun h => absurd rfl h⟩
theorem lookM_get {ks : List (List Nat × β)} (hn : (ks.map (·.1)).Nodup) {m : List Nat} {y : β} : lookM ks m = some y ↔ (m, y) ∈ ks := by
  induction ks with
  | nil => exact ⟨(fun h => nomatch h), (fun h => nomatch h)⟩
  | cons p r ih =>
    obtain ⟨h1, h2⟩ := List.nodup_cons.mp hn
    by_cases e : p.1 = m
    · rw [lookM_pos e, List.mem_cons]
      constructor
      · intro h
        left
        rw [← e, ← Option.some.inj h]
      · rintro (h | h)
        · rw [← h]
        · exact absurd (List.mem_map.mpr ⟨_, h, e.symm⟩) h1
    · rw [lookM_neg e, ih h2, List.mem_cons]
      exact ⟨.inr, fun h => h.elim (fun z => absurd (by rw [← z]) e) id⟩
theorem put_keys {ks : List (List Nat × β)} {m : List Nat} {y : β} : (putM ks m y).map (·.1) = if m ∈ ks.map (·.1) then ks.map (·.1) else ks.map (·.1) ++ [m] := by
  unfold putM
  by_cases h : m ∈ ks.map (·.1)
  · rw [if_pos h, if_pos (lookM_mem.mpr h), List.map_map]
    refine List.map_congr_left fun p _ => ?_
    show (if p.1 = m then (p.1, y) else p).1 = p.1
    split <;> rfl
  · rw [if_neg h, if_neg (fun z => h (lookM_mem.mp z)), List.map_append]
    rfl
theorem put_nodup {ks : List (List Nat × β)} {m : List Nat} {y : β} (h : (ks.map (·.1)).Nodup) : ((putM ks m y).map (·.1)).Nodup := by
  rw [put_keys]
  split
  · exact h
  · rename_i z
    exact List.nodup_append.mpr ⟨h, (List.pairwise_singleton _ _), fun a ha b hb e => z (by rw [← List.mem_singleton.mp hb, ← e]; exact ha)⟩
theorem look_map {ks : List (List Nat × β)} {m j : List Nat} {y : β} : lookM (ks.map fun p => if p.1 = m then (p.1, y) else p) j = (lookM ks j).map fun x => if j = m then y else x := by
  induction ks with
  | nil => rfl
  | cons p r ih =>
    rw [List.map_cons]
    by_cases e : p.1 = j
    · rw [lookM_pos e, lookM_pos (by split <;> exact e)]
      by_cases z : p.1 = m
      · rw [if_pos z]
        show some y = some (if j = m then y else p.2)
        rw [if_pos (e.symm.trans z)]
      · rw [if_neg z]
        show some p.2 = some (if j = m then y else p.2)
        rw [if_neg (fun q => z (e.trans q))]
    · rw [lookM_neg e, lookM_neg (by split <;> exact e), ih]
theorem look_put {ks : List (List Nat × β)} {m j : List Nat} {y : β} : lookM (putM ks m y) j = if j = m then some y else lookM ks j := by
  unfold putM
  by_cases h : (lookM ks m).isSome = true
  · rw [if_pos h, look_map]
    by_cases e : j = m
    · rw [if_pos e]
      subst e
      obtain ⟨z, hz⟩ := Option.isSome_iff_exists.mp h
      rw [hz]
      show some (if j = j then y else z) = some y
      rw [if_pos rfl]
    · rw [if_neg e]
      cases lookM ks j with
      | none => rfl
      | some z => show some (if j = m then y else z) = some z; rw [if_neg e]
  · rw [if_neg h]
    have hn : m ∉ ks.map (·.1) := fun z => h (lookM_mem.mpr z)
    clear h
    induction ks with
    | nil =>
      by_cases e : j = m
      · rw [if_pos e, List.nil_append, lookM_pos e.symm]
      · rw [if_neg e, List.nil_append, lookM_neg (fun z => e z.symm)]
    | cons p r ih =>
      rw [List.cons_append]
      rw [List.map_cons, List.mem_cons, not_or] at hn
      by_cases e : p.1 = j
      · rw [lookM_pos e, lookM_pos e, if_neg (fun z => hn.1 (z.symm.trans e.symm))]
      · rw [lookM_neg e, lookM_neg e, ih hn.2]
theorem put_len {ks : List (List Nat × β)} {m : List Nat} {y : β} : (putM ks m y).length ≤ ks.length + 1 := by
  unfold putM
  split
  · rw [List.length_map]; omega
  · rw [List.length_append]; exact Nat.le_refl _
abbrev KvP (S : Rp β) (F : Hp) (kvs : List (List Key × V)) (ks : List (List Nat × β)) : Prop := Paired (fun kv p => kv.1 = kyN p.1 ∧ S F kv.2 p.2) kvs ks
theorem KvP.val {S : Rp β} {F : Hp} {m : List Nat} : ∀ {kvs : List (List Key × V)} {ks : List (List Nat × β)}, KvP S F kvs ks → (lookM ks m = none → valV kvs (kyN m) = none) ∧ ∀ y, lookM ks m = some y → ∃ v, valV kvs (kyN m) = some v ∧ S F v y
  | _, _, .nil => ⟨fun _ => rfl, (fun y h => nomatch h)⟩
  | _, _, .cons (a := kv) (b := p) h t => by
    by_cases e : p.1 = m
    · rw [lookM_pos e, valV_pos (by rw [h.1, e])]
      exact ⟨(fun z => nomatch z), fun y z => ⟨_, rfl, by rw [← Option.some.inj z]; exact h.2⟩⟩
    · rw [lookM_neg e, valV_neg (fun z => e (kyN_inj (h.1.symm.trans z)))]
      exact KvP.val t
theorem KvP.isSome {S : Rp β} {F : Hp} {m : List Nat} {kvs : List (List Key × V)} {ks : List (List Nat × β)} (p : KvP S F kvs ks) : (valV kvs (kyN m)).isSome = (lookM ks m).isSome := by
  obtain ⟨h1, h2⟩ := p.val (m := m)
  cases e : lookM ks m with
  | none => rw [h1 e]; rfl
  | some y =>
    obtain ⟨v, hv, _⟩ := h2 y e
    rw [hv]
    rfl
theorem KvP.put {S : Rp β} {F : Hp} {m : List Nat} {v : V} {y : β} {kvs : List (List Key × V)} {ks : List (List Nat × β)} (p : KvP S F kvs ks) (r : S F v y) : KvP S F (putK kvs (kyN m) v) (putM ks m y) := by
  unfold putK putM
  rw [valV_any, p.isSome]
  split
  · have key : ∀ {kvs : List (List Key × V)} {ks : List (List Nat × β)}, KvP S F kvs ks → KvP S F (kvs.map fun kv => if kv.1 = kyN m then (kv.1, v) else kv) (ks.map fun p => if p.1 = m then (p.1, y) else p) := by
      intro kvs ks p
      unfold KvP at p
      induction p with
      | nil => exact .nil
      | @cons kv q as bs h t ih =>
        refine .cons ?_ ih
        show (if kv.1 = kyN m then (kv.1, v) else kv).1 = kyN (if q.1 = m then (q.1, y) else q).1 ∧ S F (if kv.1 = kyN m then (kv.1, v) else kv).2 (if q.1 = m then (q.1, y) else q).2
        by_cases e : q.1 = m
        · rw [if_pos e, if_pos (show kv.1 = kyN m by rw [h.1, e])]
          exact ⟨h.1, r⟩
        · rw [if_neg e, if_neg (fun z => e (kyN_inj (h.1.symm.trans z)))]
          exact h
    exact key p
  · exact Paired.app p (.cons ⟨rfl, r⟩ .nil)
theorem KvP.len {S : Rp β} {F : Hp} {kvs : List (List Key × V)} {ks : List (List Nat × β)} (p : KvP S F kvs ks) : kvs.length = ks.length := Paired.length p
theorem KvP.up {S : Rp β} [mn : Mn S] {F F' : Hp} {kvs : List (List Key × V)} {ks : List (List Nat × β)} (p : KvP S F kvs ks) (e : Ex F F') : KvP S F' kvs ks := L2.Paired.mapP p fun _ _ q => ⟨q.1, mn.mono e q.2⟩
end
/-- the dict at d, which may change -/
abbrev DM {β : Type} (S : Rp β) (F H : Hp) (d : Addr) (ks : List (List Nat × β)) : Prop := ∃ kvs, H d = some (.dT kvs) ∧ KvP S F kvs ks
theorem DM.gr {β : Type} {S : Rp β} [mn : Mn S] {F H F' H' : Hp} {d : Addr} {ks : List (List Nat × β)} (m : DM S F H d ks) (g : Gr M0 F H F' H') : DM S F' H' d ks := by
  obtain ⟨kvs, h, p⟩ := m
  exact ⟨kvs, g.hx _ _ h, p.up g.ff⟩
section
variable {K : PySem.W.Frag} {σ : St} {F H F' H' : Hp} {ta tb tc td ty tv tx te tl : TE} {α β : Type} {R : Rp α} {S : Rp β} {x : α} {y z : β} {D : Ends} {ts : TS} {d l : Addr} {ks : List (List Nat × β)} {m : List Nat}
theorem ev_dinT (ha : Ev (rTup rNat) ta σ F H m) (hd : Ev rRef td σ F H d) (h : DM S F H d ks) : Ev rBl (tDIn ta td) σ F H (lookM ks m).isSome := fun F1 H1 g1 Q q =>
  ha F1 H1 g1 _ fun v F2 H2 g2 r => hd F2 H2 (g1.trans g2) _ fun w F3 H3 g3 e => by
    obtain ⟨kvs, hk, p⟩ := h
    obtain ⟨b, rfl, hb⟩ := rTup_ky (Mn.mono g3.ff r)
    exact ⟨d, _, e, DGet.t (g3.hx _ _ (g2.hx _ _ (g1.hx _ _ hk))) (g3.fh _ _ hb), by rw [p.isSome]; exact q _ F3 H3 (g2.trans g3) rfl⟩
theorem ev_dnotT (ha : Ev (rTup rNat) ta σ F H m) (hd : Ev rRef td σ F H d) (h : DM S F H d ks) : Ev rBl (tDNotIn ta td) σ F H (!(lookM ks m).isSome) := fun F1 H1 g1 Q q =>
  ha F1 H1 g1 _ fun v F2 H2 g2 r => hd F2 H2 (g1.trans g2) _ fun w F3 H3 g3 e => by
    obtain ⟨kvs, hk, p⟩ := h
    obtain ⟨b, rfl, hb⟩ := rTup_ky (Mn.mono g3.ff r)
    exact ⟨d, _, e, DGet.t (g3.hx _ _ (g2.hx _ _ (g1.hx _ _ hk))) (g3.fh _ _ hb), by rw [p.isSome]; exact q _ F3 H3 (g2.trans g3) rfl⟩
theorem ev_dgetT (hd : Ev rRef td σ F H d) (ha : Ev (rTup rNat) ta σ F H m) (h : DM S F H d ks) (hl : lookM ks m = some y) (mn : Mn S := by infer_instance) : Ev S (tDGet td ta) σ F H y := fun F1 H1 g1 Q q =>
  hd F1 H1 g1 _ fun w F2 H2 g2 e => ha F2 H2 (g1.trans g2) _ fun v F3 H3 g3 r => by
    obtain ⟨kvs, hk, p⟩ := h
    obtain ⟨b, rfl, hb⟩ := rTup_ky r
    obtain ⟨u, hu, ru⟩ := (p.val (m := m)).2 y hl
    have := DGet.t (k := kyN m) (g3.hx _ _ (g2.hx _ _ (g1.hx _ _ hk))) (g3.fh _ _ hb)
    rw [hu] at this
    exact ⟨d, u, e, this, q _ F3 H3 (g2.trans g3) (mn.mono ((g1.ff.trans g2.ff).trans g3.ff) ru)⟩
theorem ev_dget2T (hd : Ev rRef td σ F H d) (ha : Ev (rTup rNat) ta σ F H m) (hx : Ev S tx σ F H z) (h : DM S F H d ks) (mn : Mn S := by infer_instance) : Ev S (tDGet2 td ta tx) σ F H ((lookM ks m).getD z) := fun F1 H1 g1 Q q =>
  hd F1 H1 g1 _ fun w F2 H2 g2 e => by
    obtain ⟨kvs, hk, p⟩ := h
    refine ⟨d, e, .inr ⟨kvs, .inl (g2.hx _ _ (g1.hx _ _ hk))⟩, ha F2 H2 (g1.trans g2) _ fun v F3 H3 g3 r => hx F3 H3 ((g1.trans g2).trans g3) _ fun u F4 H4 g4 r4 => ?_⟩
    obtain ⟨b, rfl, hb⟩ := rTup_ky (Mn.mono g4.ff r)
    refine ⟨_, DGet.t (k := kyN m) (g4.hx _ _ (g3.hx _ _ (g2.hx _ _ (g1.hx _ _ hk)))) (g4.fh _ _ hb), ?_⟩
    obtain ⟨h1, h2⟩ := p.val (m := m)
    cases el : lookM ks m with
    | none =>
      rw [h1 el]
      exact q _ F4 H4 ((g2.trans g3).trans g4) (by rw [el]; exact r4)
    | some y =>
      obtain ⟨u2, hu, ru⟩ := h2 y el
      rw [hu]
      exact q _ F4 H4 ((g2.trans g3).trans g4) (by rw [el]; exact mn.mono (((g1.ff.trans g2.ff).trans g3.ff).trans g4.ff) ru)
/-- d[m] = v -/
theorem x_dputT (e : ExT F H) (hv : Ev S tv σ F H y) (hd : Ev rRef td σ F H d) (hy : Ev (rTup rNat) ty σ F H m) (h : DM S F H d ks) (hz : ks.length < sizeLine)
    (kk : ∀ kvs F' H', Gr M0 F H F' H' → KvP S F' kvs (putM ks m y) → D.nx σ (upd H' d (.dT kvs))) (mn : Mn S := by infer_instance) : sDPut td ty tv D σ H :=
  hv F H (.refl e) _ fun v F1 H1 g1 r1 => hd F1 H1 g1 _ fun w F2 H2 g2 r2 => hy F2 H2 (g1.trans g2) _ fun u F3 H3 g3 r3 => by
    obtain ⟨kvs, hk, p⟩ := h
    obtain ⟨b, rfl, hb⟩ := rTup_ky r3
    exact ⟨d, _, r2, DPut.t (g3.hx _ _ (g2.hx _ _ (g1.hx _ _ hk))) (g3.fh _ _ hb) (by rw [p.len]; exact hz), kk _ F3 H3 ((g1.trans g2).trans g3) ((p.up ((g1.ff.trans g2.ff).trans g3.ff)).put (mn.mono (g2.ff.trans g3.ff) r1))⟩
/-- {m: v} -/
theorem e_disp1T {Q : VK} (e : ExT F H) (hk : Ev (rTup rNat) ty σ F H m) (hv : Ev S tv σ F H y) (k : ∀ p v F' H', Gr M0 F H F' H' → H p = none → F' p = none → H' p = some (.dT [(kyN m, v)]) → S F' v y → Q (.ref p) H') : tDisp1T ty tv σ H Q := fun p hp => by
  have g0 : Gr M0 F H F (upd H p (.dT [])) := .loc e hp
  refine hk _ _ g0 _ fun v F1 H1 g1 r1 => hv F1 H1 (g0.trans g1) _ fun w F2 H2 g2 r2 => ?_
  obtain ⟨b, rfl, hb⟩ := rTup_ky (Mn.mono g2.ff r1)
  have hp2 : H2 p = some (.dT []) := g2.hx _ _ (g1.hx _ _ upd_same)
  have fp2 : F2 p = none := (g1.trans g2).nn upd_same (e.free hp)
  exact ⟨b, kyN m, rfl, g2.fh _ _ hb, hp2, k p w F2 _ ((g0.trans (g1.trans g2)).set' fp2 (.inl hp)) hp fp2 upd_same r2⟩
theorem walk_itT {o : Obj} {kvs : List (List Key × V)} : Walk (ItiT d o kvs) kvs.length (fun H => H d = some (.frz o (.dT kvs))) (fun i H x H' => ∃ (T : Addr) (k : List Key) (v : V) (q : Addr), kvs[i]? = some (k, v) ∧ x = .ref T ∧ H T = none ∧ H q = some (.tup (k.map kV)) ∧ H' = upd H T (.tup [.ref q, v])) :=
  ⟨fun i H hi h => ⟨h, hi⟩, fun H h => ⟨h, Nat.le_refl _⟩, fun i H x H' _ _ h => h⟩
theorem frz_notbl {o : Obj} {u : HO} : ∀ ps, HO.frz o u ≠ .tbl ps := fun _ z => nomatch z
/-- for m, v in d.items(): d locked meanwhile. The keys' tuples stand in F (hky) -/
theorem x_forItT {i j k : Nat} {kvs : List (List Key × V)} (e : ExT F H) (hd : σ[k]? = some (some (.ref d))) (fd : F d = none) (h : H d = some (.dT kvs)) (p : KvP S F kvs ks) (Pv : Obj → Nat → St → Hp → Hp → Prop)
    (h0 : ∀ od F1 H1, Gr (M1 d) F H F1 H1 → F1 d = none → H1 d = some (.frz od (.dT kvs)) → Pv od 0 σ F1 H1)
    (hst : ∀ od n σ' F' H' F2 H2, Gr M0 F' H' F2 H2 → Pv od n σ' F' H' → Pv od n σ' F2 H2)
    (hl : ∀ od n σ' F' H', Pv od n σ' F' H' → F' d = none ∧ H' d = some (.frz od (.dT kvs)))
    (hs : ∀ od F1, Ex F F1 → ∀ n x u w σ' F' H', ks[n]? = some x → Ex F1 F' → ExT F' H' → rTup rNat F' u x.1 → S F' w x.2 → Pv od n σ' F' H' →
      ts { nx := fun σ2 H2 => ∃ F2, Ex F1 F2 ∧ ExT F2 H2 ∧ Pv od (n + 1) σ2 F2 H2, ct := fun σ2 H2 => ∃ F2, Ex F1 F2 ∧ ExT F2 H2 ∧ Pv od (n + 1) σ2 F2 H2, bk := fun σ2 H2 => H2 d = some (.frz od (.dT kvs)) ∧ D.nx σ2 (upd H2 d (.dT kvs)), rt := fun v H2 => H2 d = some (.frz od (.dT kvs)) ∧ D.rt v (upd H2 d (.dT kvs)) } ((σ'.set i (some u)).set j (some w)) H')
    (hdn : ∀ od σ' F' H', Ex F F' → ExT F' H' → Pv od ks.length σ' F' H' → D.nx σ' (upd H' d (.dT kvs))) (mn : Mn S := by infer_instance) : tLock (tFor (iItemsT (tVar k)) (gTup K 2 (gCons (gName i) (gCons (gName j) gNil))) ts) D σ H := by
  refine ⟨d, .dT kvs, h, True.intro, fun od => ?_⟩
  have nt : NoTab d := notab_of e.t0 h fun _ z => nomatch z
  have g0 : Gr (M1 d) F H F (upd H d (.frz od (.dT kvs))) := .set e fd rfl nt
  refine ⟨.ref d, hd, d, od, kvs, rfl, upd_same, ?_⟩
  refine for_it walk_itT (fun n σ' H' => ∃ F', Ex F F' ∧ ExT F' H' ∧ Pv od n σ' F' H') ⟨F, Ex.refl _, g0.fh, h0 od _ _ g0 fd upd_same⟩ (fun n σ' H' _ ⟨F', _, _, pv⟩ => (hl _ _ _ _ _ pv).2) ?_ ?_
  · rintro n w σ' H' H2 hn ⟨F', e1, e2, pv⟩ ⟨T, kk, v, q, hkv, rfl, hT, hq, rfl⟩
    obtain ⟨x, hx, rk, rv⟩ := Paired.getL (p.up e1) hkv
    have g2 : Gr M0 F' H' (upd F' T (.tup [.ref q, v])) (upd H' T (.tup [.ref q, v])) := .new e2 hT
    have hq2 : H' q = some (.tup ((kyN x.1).map kV)) := by rw [hq, show kk = kyN x.1 from rk]
    have rq : rTup rNat (upd F' T (.tup [.ref q, v])) (.ref q) x.1 := Mn.mono g2.ff (ky_rTup (e2.tt _ _ hq2))
    exact ⟨T, [.ref q, v], rfl, SqT.of upd_same, rfl, .ref q, [v], rfl, v, [], rfl, rfl, hs od F (Ex.refl _) n x (.ref q) v σ' _ _ hx (e1.trans g2.ff) g2.fh rq (mn.mono g2.ff rv) (hst _ _ _ _ _ _ _ g2 pv)⟩
  · rintro σ' H' ⟨F', e1, e2, pv⟩
    rw [p.len] at pv
    exact ⟨(hl _ _ _ _ _ pv).2, hdn od σ' F' H' e1 e2 pv⟩
end
end El

set_option Elab.async false
set_option linter.all false
set_option maxRecDepth 100000
set_option maxHeartbeats 4000000
namespace El
open PySem PySem.Spec L2 LamX NdefX PyProof.Rows
/-! ### a lambda of one parameter that a comprehension within it reads -/
structure CScope (N : List Str) (x : Str) (fr : List Str) (sc : Scope) : Prop where
  kind : sc.kind = .function
  co : sc.isCoroutine = false
  gen : sc.isGenerator = false
  nd : N.Nodup
  pre : N.take (1 + fr.length) = x :: fr
  nms : sc.names = (x, NameKind.cell) :: fr.map fun y => (y, NameKind.free)
def cscB (N : List Str) (x : Str) (fr : List Str) (sc : Scope) : Bool :=
  decide (sc.kind = .function) && !sc.isCoroutine && !sc.isGenerator && decide N.Nodup && decide (N.take (1 + fr.length) = x :: fr) && decide (sc.names = (x, NameKind.cell) :: fr.map fun y => (y, NameKind.free))
theorem cscope_by {N : List Str} {x : Str} {fr : List Str} {sc : Scope} (h : cscB N x fr sc = true) : CScope N x fr sc := by
  unfold cscB at h
  simp only [Bool.and_eq_true, Bool.not_eq_true', decide_eq_true_eq] at h
  obtain ⟨⟨⟨⟨⟨h1, h2⟩, h3⟩, h4⟩, h5⟩, h6⟩ := h
  exact ⟨h1, h2, h3, h4, h5, h6⟩
theorem cells_free : ∀ (fr : List Str) (n : Nat) (acc : List (Str × Addr)), cellsFrom n (fr.map fun y => (y, NameKind.free)) acc = acc
  | [], _, _ => rfl
  | y :: fr, n, acc => by
    rw [List.map_cons]
    unfold cellsFrom
    rw [if_neg (by decide)]
    exact cells_free fr n acc
theorem push_free : ∀ (fr : List Str) (h : Heap), pushCells h (fr.map fun y => (y, NameKind.free)) = h
  | [], _ => rfl
  | y :: fr, h => by
    rw [List.map_cons]
    unfold pushCells
    rw [if_neg (by decide)]
    exact push_free fr h
theorem look_free {fr : List Str} {y : Str} {k : NameKind} (h : (fr.map fun y => (y, NameKind.free)).lookup y = some k) : k = .free ∧ y ∈ fr := by
  have := PySem.mem_of_lookup h
  obtain ⟨z, hz, e⟩ := List.mem_map.mp this
  cases e
  exact ⟨rfl, hz⟩
theorem free_look {fr : List Str} {y : Str} (h : y ∈ fr) : (fr.map fun y => (y, NameKind.free)).lookup y = some .free := by
  induction fr with
  | nil => cases h
  | cons z fr ih =>
    rw [List.map_cons, List.lookup_cons]
    cases e : y == z with
    | true => rfl
    | false =>
      rcases List.mem_cons.mp h with q | q
      · rw [q] at e; simp at e
      · exact ih q
section
variable {M : Model} {A : Around} {E : Value → Shared → Prop} {s : Shared}
theorem newEnv1 {scope : Scope} {globals : Addr} {cl : List (Str × Addr)} {x : Str} {u : Value} {N fr : List Str} {qual : Str} {func : Option Addr} {code : Value} {builtins : Addr} {Q : Env → Shared → Prop} (S : CScope N x fr scope)
    (hQ : ∀ h₁, h₁.Ns s.heap.objs.size (fun _ => none) → h₁.IsCell (s.heap.objs.size + 1) (some u) → (∀ b o, s.heap.get? b = some o → h₁.get? b = some o) →
      Q (newEnv scope s.heap.objs.size globals ((x, s.heap.objs.size + 1) :: cl) qual func code none builtins) { s with heap := h₁ }) :
    wpAny M A (newFunctionEnv scope globals cl [(x, u)] qual func code none builtins) Q E s := by
  simp only [newFunctionEnv, Option.isSome_none, Bool.false_eq_true, if_false]
  refine wpAny_bind (wpAny_alloc ?_)
  refine wpAny_bind (wpAny_layCells _ (fun name kind cells => by cases hkc : kind == NameKind.cell <;> simp [hkc]) _ _ _ _ ?_)
  have hz : (s.heap.push { cls := .type "frame", data := .dict #[] }).objs.size = s.heap.objs.size + 1 := Heap.size_push ..
  have e1 : ∀ n, cellsFrom n scope.names cl = (x, n) :: cl := fun n => by
    rw [S.nms]
    unfold cellsFrom
    rw [if_pos (show (NameKind.cell == NameKind.cell) = true by rfl)]
    exact cells_free fr _ _
  have e2 : ∀ h, pushCells h scope.names = h.push { cls := .type "cell", data := .cell none } := fun h => by
    rw [S.nms]
    unfold pushCells
    rw [if_pos (show (NameKind.cell == NameKind.cell) = true by rfl)]
    exact push_free fr _
  dsimp only
  rw [e1, e2, hz]
  have ns0 : (s.heap.push { cls := .type "frame", data := .dict #[] }).Ns s.heap.objs.size (fun _ => none) := Heap.Ns.new s.heap (.type "frame")
  have k1 : ∀ b o, (s.heap.push { cls := .type "frame", data := .dict #[] }).get? b = some o → ((s.heap.push { cls := .type "frame", data := .dict #[] }).push { cls := .type "cell", data := .cell none }).get? b = some o := fun b o e => Heap.get?_push_of_some _ e
  have c1 : ((s.heap.push { cls := .type "frame", data := .dict #[] }).push { cls := .type "cell", data := .cell none }).IsCell (s.heap.objs.size + 1) none := by
    rw [← hz]
    exact ⟨_, Heap.get?_push_size _ rfl, rfl⟩
  have ns1 := ns0.keeps k1
  have k0 : ∀ b o, s.heap.get? b = some o → ((s.heap.push { cls := .type "frame", data := .dict #[] }).push { cls := .type "cell", data := .cell none }).get? b = some o := fun b o e => k1 b o (Heap.get?_push_of_some _ e)
  generalize hh : (s.heap.push { cls := .type "frame", data := .dict #[] }).push { cls := .type "cell", data := .cell none } = h2 at c1 ns1 k0 ⊢
  rw [List.forIn_cons]
  refine wpAny_bind (wpAny_bind (wpAny_bind (wpAny_storeName_cell (env := newEnv scope s.heap.objs.size globals ((x, s.heap.objs.size + 1) :: cl) qual func code none builtins) (c := s.heap.objs.size + 1) S.kind ?_ ?_ c1 fun h3 hc hs => wpAny_pure (wpAny_pure ?_))))
  · show scope.names.lookup x = some .cell
    rw [S.nms, List.lookup_cons, beq_self_eq_true]
  · show ((x, s.heap.objs.size + 1) :: cl).lookup x = _
    rw [List.lookup_cons, beq_self_eq_true]
  exact wpAny_pure (hQ h3 (ns1.sameBut hs (Nat.ne_of_lt (Nat.lt_succ_self _))) hc fun b o e => (hs.2 b (Nat.ne_of_lt (Nat.lt_trans (Heap.lt_size e) (Nat.lt_succ_self _)))).trans (k0 b o e))
end
abbrev with1 (F : NF) (x : Str) (c : Addr) : NF := { F with cl := (x, c) :: F.cl }
section
variable {CX : CXT} {P : Program} {w : World} {K : PySem.W.Frag} {mg : Str → Option Value} {base : Heap} {N fr : List Str} {x : Str} {F : NF} {f : Addr} {A : Around} {outer : List Env} {s : Shared} {H : Hp} {E : XK} {u : Value} {v : V} {ws : List (Option V)}
theorem inv_start1 {h₁ : Heap} (S : CScope N x fr F.scope) (hd : A.handled = none) (e0 : Env0 P w K mg base A outer s H) (r : L2.RelV v u) (C : CellsAt F.cl fr ws s.heap H) (hns : h₁.Ns s.heap.objs.size fun _ => none) (hc : h₁.IsCell (s.heap.objs.size + 1) (some u))
    (kp : ∀ b o, s.heap.get? b = some o → h₁.get? b = some o) : Inv (ncx CX P w K mg base N (with1 F x (s.heap.objs.size + 1)) f A outer s H E) [] (startF N [v] ws) H { s with heap := h₁ } := by
  have hpl : 1 + fr.length ≤ N.length := by
    have q := congrArg List.length S.pre
    rw [List.length_take, List.length_cons] at q
    omega
  have hxf : x ∉ fr := by
    have q := S.nd.sublist (List.take_sublist (1 + fr.length) N)
    rw [S.pre] at q
    exact (List.nodup_cons.mp q).1
  have noA : ∀ b : Addr, b ∉ (ncx CX P w K mg base N (with1 F x (s.heap.objs.size + 1)) f A outer s H E).ex := fun b z => absurd (show b ∈ ([] : List Addr) from z) (by simp)
  have cellK : ∀ {c : Addr} {v : Option Value}, s.heap.IsCell c v → h₁.IsCell c v := fun {c v} ⟨o, ho, hd⟩ => ⟨o, kp _ _ ho, hd⟩
  have lk : ∀ y c, ((x, s.heap.objs.size + 1) :: F.cl).lookup y = some c → (y = x ∧ c = s.heap.objs.size + 1) ∨ (y ≠ x ∧ F.cl.lookup y = some c) := fun y c h => by
    rw [List.lookup_cons] at h
    cases e : y == x with
    | true => rw [e] at h; exact .inl ⟨by simpa using e, (Option.some.inj h).symm⟩
    | false => rw [e] at h; exact .inr ⟨by intro z; rw [z] at e; simp at e, h⟩
  have old : ∀ y c, F.cl.lookup y = some c → c < s.heap.objs.size := fun y c h => by
    obtain ⟨_, w', o, ho, _⟩ := C.all y c h
    exact Heap.lt_size ho
  refine ⟨⟨e0.mod, S.kind, rfl, rfl, Nat.le_refl _, fun y z c h1 h2 => ?_, fun y hy => ?_, fun y c z _ => ?_, fun _ => hd, Around.frames_deeper e0.frames, .inr ⟨rfl, rfl⟩, fun b z => absurd z (noA b), e0.bs, e0.bsz, fun b _ _ => noA b,
      fun b z => absurd z (noA b), e0.funs, e0.frf⟩,
    rfl, e0.bare, Un.kept kp, ⟨_, hns, fun i y v' e1 e2 e3 => ?_⟩, fun y c e => ?_, e0.hok.fresh (Nat.le_refl _), fun y c e => ?_, fun q hq => absurd (show q ∈ ([] : List (Addr × Obj)) ++ [] from hq) (by simp), e0.hok.kept kp, ?_⟩
  · rcases lk y c h1 with ⟨a1, a2⟩ | ⟨a1, a2⟩
    · rcases lk z c h2 with ⟨b1, b2⟩ | ⟨b1, b2⟩
      · rw [a1, b1]
      · have := old z c b2
        rw [a2] at this
        exact absurd this (Nat.not_lt.mpr (Nat.le_succ _))
    · rcases lk z c h2 with ⟨b1, b2⟩ | ⟨b1, b2⟩
      · have := old y c a2
        rw [b2] at this
        exact absurd this (Nat.not_lt.mpr (Nat.le_succ _))
      · exact C.inj y z c a2 b2
  · have hy : F.scope.names.lookup y = some .cell ∨ F.scope.names.lookup y = some .free := hy
    rw [S.nms, List.lookup_cons] at hy
    show ∃ c, ((x, s.heap.objs.size + 1) :: F.cl).lookup y = some c
    rw [List.lookup_cons]
    cases e : y == x with
    | true => exact ⟨_, rfl⟩
    | false =>
      rw [e] at hy
      have hm : y ∈ fr := hy.elim (fun h => (look_free h).2) (fun h => (look_free h).2)
      obtain ⟨i, hi⟩ := List.mem_iff_getElem?.mp hm
      obtain ⟨c, hc', _⟩ := C.has i y hi
      exact ⟨c, hc'⟩
  · have z : false = true := z
    cases z
  · have e1 : N[i]? = some y := e1
    have clen := C.len
    unfold startF at e2
    rcases Nat.eq_zero_or_pos i with h0 | h0
    · subst h0
      have hq : y = x := by
        have q : (N.take (1 + fr.length))[0]? = some y := by rw [List.getElem?_take_of_lt (by omega)]; exact e1
        rw [S.pre] at q
        exact (Option.some.inj q).symm
      subst hq
      have ev : v' = v := by
        have q : some (some v) = some (some v') := e2
        cases q
        rfl
      subst ev
      refine ⟨u, r, .inr ⟨.inl ?_, s.heap.objs.size + 1, ?_, hc⟩⟩
      · show F.scope.names.lookup y = some .cell
        rw [S.nms, List.lookup_cons, beq_self_eq_true]
      · show ((y, s.heap.objs.size + 1) :: F.cl).lookup y = _
        rw [List.lookup_cons, beq_self_eq_true]
    · rw [List.getElem?_append_right (by rw [List.length_map]; exact h0), List.length_map] at e2
      have e2 : (ws ++ List.replicate (N.length - 1 - ws.length) none)[i - 1]? = some (some v') := e2
      by_cases h2 : i - 1 < fr.length
      · have hq : fr[i - 1]? = some y := by
          have q : (N.take (1 + fr.length))[i]? = some y := by rw [List.getElem?_take_of_lt (by omega)]; exact e1
          rw [S.pre] at q
          obtain ⟨j, rfl⟩ : ∃ j, i = j + 1 := ⟨i - 1, by omega⟩
          rw [List.getElem?_cons_succ] at q
          exact q
        rw [List.getElem?_append_left (by omega)] at e2
        obtain ⟨c, hc', hv⟩ := C.has (i - 1) y hq
        obtain ⟨u', ru, hu⟩ := hv v' e2
        have hne : ¬ y = x := fun z => hxf (by rw [← z]; exact List.mem_of_getElem? hq)
        have hbe : (y == x) = false := beq_eq_false_iff_ne.mpr hne
        refine ⟨u', ru, .inr ⟨.inr ?_, c, ?_, cellK hu⟩⟩
        · show F.scope.names.lookup y = some .free
          rw [S.nms, List.lookup_cons, hbe]
          exact free_look (List.mem_of_getElem? hq)
        · show ((x, s.heap.objs.size + 1) :: F.cl).lookup y = _
          rw [List.lookup_cons, hbe]
          exact hc'
      · rw [List.getElem?_append_right (by omega), List.getElem?_replicate] at e2
        split at e2 <;> cases e2
  · rcases lk y c e with ⟨a1, a2⟩ | ⟨a1, a2⟩
    · rw [a2]
      exact ⟨_, hc⟩
    · obtain ⟨v', z⟩ := (C.all y c a2).2
      exact ⟨v', cellK z⟩
  · rcases lk y c e with ⟨a1, a2⟩ | ⟨a1, a2⟩
    · rw [a2]
      exact e0.hok.fresh (Nat.le_succ _)
    · exact (C.all y c a2).1
  · have clen := C.len
    unfold startF
    show _ = N.length
    rw [List.length_append, List.length_append, List.length_map, List.length_replicate]
    show 1 + _ = _
    rw [show [v].length = 1 from rfl]
    omega
end
section
variable {CX : CXT} {P : Program} {w : World} {K : PySem.W.Frag} {mg : Str → Option Value} {base : Heap} {N fr : List Str} {x : Str} {F : NF} {body : Expr} {f : Addr} {k : Nat} {sp : List (Option V) → Sp}
/-- THE RULE: such a lambda by its body -/
theorem lok1_of (S : CScope N x fr F.scope) (hb : ∀ (pm ctv u : Value), bindArgs (PySem.W.kla_fn F.name F.qual F.params body F.scope F.cl pm (.ref F.c) ctv) ⟨[u], []⟩ = pure [(x, u)]) (len : ∀ ws vs H Q E, sp ws vs H Q E → vs.length = [x].length)
    (hbody : ∀ (A : Around) (outer : List Env) (s : Shared) (H : Hp) (v : V) (ws : List (Option V)) (Q : VK) (E : XK), Room k (A.deeper (envF (with1 F x (s.heap.objs.size + 1)) f s.heap.objs.size)) → H F.c = some (CodeO F.c F.qual) → ws.length = fr.length → sp ws [v] H Q E →
      ∃ t, PE (ncx CX P w K mg base N (with1 F x (s.heap.objs.size + 1)) f A outer s H E) body t ∧ t (startF N [v] ws) H Q) : LOk P w K mg base CX (k + 1) f F body [x] fr sp := by
  refine ⟨len, fun A outer s H us vs ws Q E hr e0 ⟨od, sl, pm, ctv, ho⟩ hc C r hsp => ?_⟩
  have hl := len _ _ _ _ _ hsp
  obtain ⟨v, rfl⟩ : ∃ v, vs = [v] := by
    match vs, hl with
    | [v], _ => exact ⟨v, rfl⟩
  obtain ⟨u, rfl, ru⟩ := vals1 r
  have lim : s.heap.NoLimit := e0.mod.nolimit.keeps fun b o e => (e0.bs b o e).1
  refine PySem.W.kla_callFunE hr.depth ho rfl S.co S.gen rfl (codeO_at e0.hok hc) ?_
  rw [hb pm ctv u]
  refine wpAny_pure (newEnv1 S fun h₁ hns hcell kp => ⟨lim.keeps kp, ?_⟩)
  show codeAny _ _ (.expr body (envF (with1 F x (s.heap.objs.size + 1)) f s.heap.objs.size)) _ _
  obtain ⟨t, ht, hq⟩ := hbody A outer s H v ws Q E (hr.deeper _) hc C.len hsp
  have I : Inv (ncx CX P w K mg base N (with1 F x (s.heap.objs.size + 1)) f A outer s H E) [] (startF N [v] ws) H { s with heap := h₁ } := inv_start1 S hr.hd e0 ru C hns hcell kp
  refine PySem.W.kla_codeExpr (wpAny_mono (ht.run [] _ _ H Q I hq) (fun v s' hq => ?_) fun e s' hq => hq)
  obtain ⟨w', H', J', rv, q⟩ := hq
  exact ⟨w', H', J'.os, J'.bare, J'.base, J'.hok, rv, q⟩
end
end El

set_option Elab.async false
set_option linter.all false
set_option maxRecDepth 100000
set_option maxHeartbeats 4000000
namespace El
open PySem PySem.Spec L2 LamX NdefX PyProof.Rows
/-- the heap behind the program's top -/
class LawBase where
  B : Heap
section
variable [LawTabs]
/-! ### the law's entry -/
def lawF (H : Hp) : Hp := fun b => match H b with
  | some (.tup xs) => some (.tup xs)
  | _ => none
theorem lawF_some {H : Hp} {b : Addr} {o : HO} (h : lawF H b = some o) : H b = some o := by
  unfold lawF at h
  split at h
  · rename_i xs q
    rw [q]
    exact h
  · cases h
theorem lawF_tup {H : Hp} {b : Addr} {xs : List V} (h : H b = some (.tup xs)) : lawF H b = some (.tup xs) := by
  unfold lawF
  rw [h]
theorem lawF_ext {H : Hp} (h : ∀ p ∈ LawTabs.T, H p.1 = some (.tbl #[])) : ExT (lawF H) H := by
  refine ⟨fun b o q => lawF_some q, fun p hp => ⟨?_, #[], h p hp, True.intro, fun pos cv hc => ?_⟩, fun b xs q => lawF_tup q⟩
  · cases q : lawF H p.1 with
    | none => rfl
    | some o =>
      have z := lawF_some q
      rw [h p hp] at z
      cases z
      unfold lawF at q
      rw [h p hp] at q
      cases q
  · have z : codeAmong pos [] = some cv := hc
    simp [codeAmong] at z
def spLawT (K : PySem.W.Frag) : Sp := fun vs H Q _ => ∃ (a : Addr) (ns : List Int), vs = [.ref a] ∧ SqL K H a (ns.map V.int) ∧ ns.length ≤ 63 ∧ (∀ p ∈ LawTabs.T, H p.1 = some (.tbl #[])) ∧ ∀ H', Q (.bl true) H'
instance {K : PySem.W.Frag} : SpLen (spLawT K) 1 := ⟨fun ⟨_, _, h, _⟩ => by rw [h]; rfl⟩
end
/-! ### defs that are handed a lambda, and such as make one -/
section
variable {P : Program} {w : World} {K : PySem.W.Frag} {mg : Str → Option Value} {base : Heap}
theorem Fun_okL {x qual : Str} {st : Stmt} {g : Addr} {fd : FuncData} {N ps : List Str} {k kl n : Nat} {CX : CXT} {spg : Addr → Addr → Str → Sp → Sp} (F : Fun K x qual st g fd) (S : FnScope N ps (defScope st)) (len : ∀ f c q lsp vs H Q E, spg f c q lsp vs H Q E → vs.length = ps.length)
    (hbody : ∀ (cdv : Value) (A : Around) (outer : List Env) (s : Shared) (H : Hp) (vs : List V) (Q : VK) (E : XK) (f c : Addr) (q : Str) (lsp : Sp), Room k (A.deeper (envOfC qual (defScope st) s.heap.objs.size g cdv)) → LCall P w K mg base CX kl (frs outer) s.heap H f c q n lsp → spg f c q lsp vs H Q E →
      ∃ t, PSs (cxOf CX P w K mg base N qual (defScope st) g cdv A outer s H E) (defBody st) t ∧ t { nx := fun _ H' => Q .non H', rt := Q } (L2.start N vs) H) : LFn P w K mg base CX (k + 1) kl g fd ps n spg := by
  obtain ⟨oc, od, kV, doc, pm, an, cdv, ct, osl, rfl, lk, hcd⟩ := F.ex
  exact lfn_of lk hcd S len fun A outer s H vs Q E f c q lsp hr L h => hbody cdv A outer s H vs Q E f c q lsp hr L h
structure FunC (K : PySem.W.Frag) (x qual : Str) (st : Stmt) (f : Addr) (fd : FuncData) (c : Addr) : Prop where
  ex : ∃ (oc : Value) (od : Option Addr) (kV doc pm : Value) (an : Option Addr) (ct : Value) (osl : Array (Option Value)),
    fd = PySem.W.fnOf x qual (defArgs st) (defBody st) (defScope st) .none kV doc pm an (.ref c) ct ∧ K.lookup f = some ⟨oc, od, .func fd, osl⟩ ∧ PySem.W.codeIn K (.ref c) qual = true
  kp : PySem.W.keepIn K (.ref f) = true
theorem FunC.plain {x qual : Str} {st : Stmt} {f c : Addr} {fd : FuncData} (F : FunC K x qual st f fd c) : Fun K x qual st f fd := by
  obtain ⟨oc, od, kV, doc, pm, an, ct, osl, e, l, c⟩ := F.ex
  exact ⟨⟨oc, od, kV, doc, pm, an, _, ct, osl, e, l, c⟩, F.kp⟩
theorem FunC.okX {x qual : Str} {st : Stmt} {f c : Addr} {fd : FuncData} {N ps : List Str} {k : Nat} {sp : Sp} (F : FunC K x qual st f fd c) (S : FnScope N ps (defScope st)) (len : ∀ vs H Q E, sp vs H Q E → vs.length = ps.length)
    (hbody : ∀ (A : Around) (outer : List Env) (s : Shared) (H : Hp) (vs : List V) (Q : VK) (E : XK), Room k (A.deeper (envOfC qual (defScope st) s.heap.objs.size f (.ref c))) → sp vs H Q E →
      ∃ t, PSs (cxOf (L2.CX P w) P w K mg base N qual (defScope st) f (.ref c) A outer s H E) (defBody st) t ∧ t { nx := fun _ H' => Q .non H', rt := Q } (L2.start N vs) H) : FnOk P w K mg base (L2.CX P w) (k + 1) f fd ps sp := by
  obtain ⟨oc, od, kV, doc, pm, an, ct, osl, rfl, lk, hcd⟩ := F.ex
  exact fn_of lk hcd S len fun A outer s H vs Q E hr hsp => hbody A outer s H vs Q E hr hsp
/-- the table of a code object -/
def tabOf (o : Obj) : Option Value := match o.data with
  | .fields vs => vs[11]?
  | _ => none
end
section
variable [LawTabs]
variable {K : PySem.W.Frag} {σ : L2.St} {F H F' H' : Hp} {ta t1 : TE} {α β : Type} {R : Rp α} {S : Rp β} {x : α} {y : β} {D : Ends} {E : XK}
def tLcall (i : Nat) (f c : Addr) (q : Str) (lsp : Sp) (E : XK) (t : TA) : TE := fun σ H Q => σ[i]? = some (some (.ref f)) ∧ t σ H fun vs H1 => H1 c = some (CodeO c q) ∧ lsp vs H1 Q E
theorem pe_lcall1 {X : Cx} {CX : CXT} {f c : Addr} {q : Str} {n j k : Nat} {x : Str} {lsp : Sp} {t : TA} {e : Expr} {es : List Expr} {p pos : Pos} (L : LCall X.prog X.w X.K X.mg X.base CX k X.fs X.s_0.heap X.H_0 f c q n lsp) (hex : X.ex = []) (hr : Room j X.A) (hk : k ≤ j) (hx : Passes CX X E) (i : Nat) (hN : X.N[i]? = some x) (hv : Vis X.env.scope x) (ha : PA X (e :: es) t)
    (hd : (x == ("__debug__" : Str)) = false := by decide) (hcd : (x == ("__classdict__" : Str)) = false := by decide)
    (he : starEach (e :: es) X.env = (false, eval e X.env) :: starEach es X.env := by rfl) (hpl : (backTo pos (starEach es X.env)).any (·.1) = false := by rfl) :
    PE X (.Call (.Name x p) (e :: es) [] pos) (tLcall i f c q lsp E t) := pe_lcall L hex hr hk hx hN hv ha hd hcd he hpl
theorem ev_lcall {i : Nat} {f c : Addr} {q : Str} {lsp : Sp} (hv : σ[i]? = some (some (.ref f))) (hc : F c = some (CodeO c q)) (ha : Ev R ta σ F H x)
    (hl : ∀ F1 H1 v, Gr M0 F H F1 H1 → R F1 v x → ∀ Q : VK, (∀ w F2 H2, Gr M0 F1 H1 F2 H2 → S F2 w y → Q w H2) → lsp [v] H1 Q E) : Ev S (tLcall i f c q lsp E (tCons ta tNil)) σ F H y := fun F1 H1 g1 Q qq =>
  ⟨hv, ha F1 H1 g1 _ fun v F2 H2 g2 r => ⟨g2.fh _ _ (g2.ff _ _ (g1.ff _ _ hc)), hl F2 H2 v (g1.trans g2) r Q fun w F3 H3 g3 s => qq w F3 H3 (g2.trans g3) s⟩⟩
/-! ### what found_from finds -/
def addM (most : Nat) : List (List Nat) → List (List Nat) → Option (List (List Nat))
  | fs, [] => some fs
  | fs, y :: ys => if y ∈ fs then addM most fs ys else if fs.length = most then none else addM most (fs ++ [y]) ys
def foundLoop (L : List Nat → List (List Nat)) (most : Nat) : Nat → Nat → List (List Nat) → Option (List (List Nat))
  | 0, _, fs => some fs
  | n + 1, at_, fs => match fs[at_]? with
    | none => some fs
    | some x => match addM most fs (L x) with
      | none => none
      | some fs' => foundLoop L most n (at_ + 1) fs'
def foundM (L : List Nat → List (List Nat)) (most : Nat) (b : List Nat) : Option (List (List Nat)) := foundLoop L most (most + 1) 0 [b]
def SpFound (CT : Addr) (f c : Addr) (q : Str) (lsp : Sp) : Sp := fun vs H Q E => ∃ (F : Hp) (v0 : V) (b : List Nat) (m : Nat) (I : List Nat → Prop) (L : List Nat → List (List Nat)), vs = [v0, .ref f, .int (m : Int)] ∧ ExT F H ∧ rTup rNat F v0 b ∧ F c = some (CodeO c q) ∧
  1 ≤ m ∧ m ≤ 1000 ∧ I b ∧ (∀ x, I x → ∀ y ∈ L x, I y) ∧
  (∀ F1 H1 v x, Gr M0 F H F1 H1 → rTup rNat F1 v x → I x → ∀ (Q1 : VK) (E1 : XK), (∀ w F2 H2, Gr M0 F1 H1 F2 H2 → rLst (rTup rNat) F2 w (L x) → Q1 w H2) → lsp [v] H1 Q1 E1) ∧
  (∀ xs, foundM L m b = some xs → ∀ w F' H', Gr M0 F H F' H' → rLst (rTup rNat) F' w xs → Q w H') ∧ (foundM L m b = none → ∀ F' H', Gr M0 F H F' H' → E (.ref CT) none H')
theorem SpFound.len {CT f c : Addr} {q : Str} {lsp : Sp} {vs : List V} {H : Hp} {Q : VK} {E : XK} (h : SpFound CT f c q lsp vs H Q E) : vs.length = 3 := by
  obtain ⟨_, _, _, _, _, _, e, _⟩ := h
  rw [e]
  rfl
/-- what the lambdas of maps_of and sets_of promise -/
def SpLam (CTu : Addr) (I : Tn → List Nat → Prop) (L : Tn → List Nat → List (List Nat)) (_ _ : Addr) (ws : List (Option V)) : Sp := fun vs H Q _ => ∃ (F : Hp) (tv v : V) (t : Tn) (m : List Nat), ws = [some tv] ∧ vs = [v] ∧ ExT F H ∧ rTurns CTu F tv t ∧ rTup rNat F v m ∧ I t m ∧
  ∀ w F' H', Gr M0 F H F' H' → rLst (rTup rNat) F' w (L t m) → Q w H'
theorem SpLam.len {CTu : Addr} {I : Tn → List Nat → Prop} {L : Tn → List Nat → List (List Nat)} {f c : Addr} {ws : List (Option V)} {vs : List V} {H : Hp} {Q : VK} {E : XK} (h : SpLam CTu I L f c ws vs H Q E) : vs.length = 1 := by
  obtain ⟨_, _, _, _, _, _, e, _⟩ := h
  rw [e]
  rfl
/-- found_from(begin, lambda.., MOST) with such a lambda -/
theorem e_lam4 {CTu CT : Addr} {I : Tn → List Nat → Prop} {L : Tn → List Nat → List (List Nat)} {q : Str} {j m : Nat} {tv : V} {t : Tn} {b : List Nat} {Q : VK} (e : ExT F H) (h1 : Ev (rTup rNat) t1 σ F H b) (hj : σ[j]? = some (some tv)) (rt : rTurns CTu F tv t)
    (m1 : 1 ≤ m) (m2 : m ≤ 1000) (ib : I t b) (il : ∀ x, I t x → ∀ y ∈ L t x, I t y) (k : ∀ xs, foundM (L t) m b = some xs → ∀ w F' H', Gr M0 F H F' H' → rLst (rTup rNat) F' w xs → Q w H') (kn : foundM (L t) m b = none → ∀ F' H', Gr M0 F H F' H' → E (.ref CT) none H') :
    tLam4 q [j] (SpFound CT) (SpLam CTu I L) (.int (m : Int)) E t1 σ H Q :=
  h1 F H (.refl e) _ fun v F1 H1 g1 r1 => ⟨F1, g1.fh, fun f c' F2 H2 g2 hf hc => ⟨F2, v, b, m, I t, L t, rfl, g2.fh, Mn.mono g2.ff r1, hc, m1, m2, ib, il, fun F3 H3 u x g3 ru hx Q1 E1 q1 =>
    ⟨F3, tv, u, t, x, by show [slotAt σ j] = _; rw [slotAt_of hj], rfl, g3.fh, Mn.mono ((g1.ff.trans g2.ff).trans g3.ff) rt, ru, hx, q1⟩, fun xs hx w F' H' g r => k xs hx w F' H' ((g1.trans g2).trans g) r, fun hn F' H' g => kn hn F' H' ((g1.trans g2).trans g)⟩⟩
end
end El

set_option Elab.async false
set_option linter.all false
set_option maxRecDepth 100000
set_option maxHeartbeats 4000000
namespace El
open PySem PySem.Spec L2 LamX NdefX PyProof.Rows
/-! ### the lambda that a def's text hands on: f(e, lambda .., NAME) -/
def lamP : List Stmt → Option (Arguments × Expr × Scope)
  | [] => none
  | .Return (some (.Call _ (_ :: .Lambda p b s _ :: _) _ _)) _ :: _ => some (p, b, s)
  | .Assign _ (.Call _ (_ :: .Lambda p b s _ :: _) _ _) _ :: _ => some (p, b, s)
  | _ :: r => lamP r
def lscope (b : List Stmt) : Scope := match lamP b with
  | some (_, _, s) => s
  | none => defScope (.Pass ⟨0, 0, 0, 0⟩)
def lbody (b : List Stmt) : Expr := match lamP b with
  | some (_, e, _) => e
  | none => .Name "" ⟨0, 0, 0, 0⟩
def largs (b : List Stmt) : Arguments := match lamP b with
  | some (p, _, _) => p
  | none => defArgs (.Pass ⟨0, 0, 0, 0⟩)
end El

set_option Elab.async false
set_option linter.all false
set_option maxRecDepth 100000
set_option maxHeartbeats 4000000
namespace El
open PySem PySem.Spec L2
variable [LawTabs]
/-! ### what is known already: True by each -/
def trues (fs : List (List Nat)) : List (List Nat × Bool) := fs.map fun x => (x, true)
theorem trues_keys (fs : List (List Nat)) : (trues fs).map (·.1) = fs := by
  unfold trues
  rw [List.map_map]
  exact List.map_id' fs
theorem look_trues {fs : List (List Nat)} {y : List Nat} : (lookM (trues fs) y).isSome = decide (y ∈ fs) := by
  by_cases h : y ∈ fs
  · rw [decide_eq_true h]
    exact lookM_mem.mpr (by rw [trues_keys]; exact h)
  · rw [decide_eq_false h]
    cases q : (lookM (trues fs) y).isSome with
    | false => rfl
    | true => exact absurd (by rw [← trues_keys fs]; exact lookM_mem.mp q) h
theorem put_trues {fs : List (List Nat)} {y : List Nat} (h : y ∉ fs) : putM (trues fs) y true = trues (fs ++ [y]) := by
  unfold putM
  rw [look_trues, decide_eq_false h, if_neg Bool.false_ne_true]
  unfold trues
  rw [List.map_append]
  rfl
theorem trues_len (fs : List (List Nat)) : (trues fs).length = fs.length := List.length_map _
theorem addM_in {m : Nat} {fs ys : List (List Nat)} {y : List Nat} (h : y ∈ fs) : addM m fs (y :: ys) = addM m fs ys := by
  rw [addM, if_pos h]
theorem addM_full {m : Nat} {fs ys : List (List Nat)} {y : List Nat} (h : y ∉ fs) (hm : fs.length = m) : addM m fs (y :: ys) = none := by
  rw [addM, if_neg h, if_pos hm]
theorem addM_new {m : Nat} {fs ys : List (List Nat)} {y : List Nat} (h : y ∉ fs) (hm : ¬ fs.length = m) : addM m fs (y :: ys) = addM m (fs ++ [y]) ys := by
  rw [addM, if_neg h, if_neg hm]
theorem loop_end {L : List Nat → List (List Nat)} {m n a : Nat} {fs : List (List Nat)} (h : fs.length ≤ a) : foundLoop L m n a fs = some fs := by
  cases n with
  | zero => rfl
  | succ n =>
    rw [foundLoop, List.getElem?_eq_none h]
theorem loop_none {L : List Nat → List (List Nat)} {m n a : Nat} {fs : List (List Nat)} {x : List Nat} (h : fs[a]? = some x) (hn : addM m fs (L x) = none) : foundLoop L m (n + 1) a fs = none := by
  rw [foundLoop, h]
  show (match addM m fs (L x) with | none => none | some fs' => foundLoop L m n (a + 1) fs') = none
  rw [hn]
theorem loop_some {L : List Nat → List (List Nat)} {m n a : Nat} {fs fs' : List (List Nat)} {x : List Nat} (h : fs[a]? = some x) (hn : addM m fs (L x) = some fs') : foundLoop L m (n + 1) a fs = foundLoop L m n (a + 1) fs' := by
  rw [foundLoop, h]
  show (match addM m fs (L x) with | none => none | some fs' => foundLoop L m n (a + 1) fs') = _
  rw [hn]
/-! ### promises of defs that may refuse, by a class without a value -/
def SpT1 {α β : Type} (R : Rp α) (Pre : α → Prop) (S : Rp β) (f : α → Option β) (C : Addr) : Sp := fun vs H Q E => ∃ F v x, vs = [v] ∧ ExT F H ∧ R F v x ∧ Pre x ∧ (∀ y, f x = some y → ∀ w F' H', Gr M0 F H F' H' → S F' w y → Q w H') ∧ (f x = none → ∀ F' H', Gr M0 F H F' H' → E (.ref C) none H')
def SpT2 {α β γ : Type} (R : Rp α) (S : Rp β) (Pre : α → β → Prop) (T : Rp γ) (f : α → β → Option γ) (C : Addr) : Sp := fun vs H Q E => ∃ F v w x y, vs = [v, w] ∧ ExT F H ∧ R F v x ∧ S F w y ∧ Pre x y ∧ (∀ z, f x y = some z → ∀ u F' H', Gr M0 F H F' H' → T F' u z → Q u H') ∧ (f x y = none → ∀ F' H', Gr M0 F H F' H' → E (.ref C) none H')
instance {α β : Type} {R : Rp α} {Pre : α → Prop} {S : Rp β} {f : α → Option β} {C : Addr} : SpLen (SpT1 R Pre S f C) 1 := ⟨fun ⟨_, _, _, h, _⟩ => by rw [h]; rfl⟩
instance {α β γ : Type} {R : Rp α} {S : Rp β} {Pre : α → β → Prop} {T : Rp γ} {f : α → β → Option γ} {C : Addr} : SpLen (SpT2 R S Pre T f C) 2 := ⟨fun ⟨_, _, _, _, _, h, _⟩ => by rw [h]; rfl⟩
section
variable {σ : St} {F H : Hp} {ta tb : TE} {α β γ : Type} {R : Rp α} {S : Rp β} {T : Rp γ} {x : α} {y : β} {z : γ} {D : Ends} {C : Addr} {Q : VK}
theorem e_callT1 {Pre : α → Prop} {f : α → Option β} {E : St → XK} (e : ExT F H) (ha : Ev R ta σ F H x) (p : Pre x) (k : ∀ y, f x = some y → ∀ w F' H', Gr M0 F H F' H' → S F' w y → Q w H') (kn : f x = none → ∀ F' H', Gr M0 F H F' H' → E σ (.ref C) none H') : tCallS (SpT1 R Pre S f C) E (tCons ta tNil) σ H Q :=
  ha F H (.refl e) _ fun v F1 H1 g1 r => ⟨F1, v, x, rfl, g1.fh, r, p, fun y hy w F' H' g s => k y hy w F' H' (g1.trans g) s, fun hn F' H' g => kn hn F' H' (g1.trans g)⟩
theorem x_dropT1 {Pre : α → Prop} {f : α → Option β} {E : St → XK} (e : ExT F H) (ha : Ev R ta σ F H x) (p : Pre x) (k : ∀ y, f x = some y → ∀ F' H', Gr M0 F H F' H' → D.nx σ H') (kn : f x = none → ∀ F' H', Gr M0 F H F' H' → E σ (.ref C) none H') : tDrop (tCallS (SpT1 R Pre S f C) E (tCons ta tNil)) D σ H :=
  e_callT1 e ha p (fun y hy w F' H' g _ => k y hy F' H' g) kn
theorem ev_callT1 {Pre : α → Prop} {f : α → Option β} {E : XK} (ha : Ev R ta σ F H x) (p : Pre x) (hy : f x = some y) : Ev S (tCall (SpT1 R Pre S f C) [] E (tCons ta tNil)) σ F H y := fun F1 H1 g1 Q q =>
  ha F1 H1 g1 _ fun v F2 H2 g2 r => ⟨F2, v, x, rfl, g2.fh, r, p, fun y' hy' w F' H' g s => by
    rw [hy] at hy'
    cases hy'
    exact q w F' H' (g2.trans g) s, fun hn => by rw [hy] at hn; cases hn⟩
theorem e_callT2 {Pre : α → β → Prop} {f : α → β → Option γ} {E : St → XK} (e : ExT F H) (ha : Ev R ta σ F H x) (hb : Ev S tb σ F H y) (p : Pre x y) (k : ∀ z, f x y = some z → ∀ w F' H', Gr M0 F H F' H' → T F' w z → Q w H') (kn : f x y = none → ∀ F' H', Gr M0 F H F' H' → E σ (.ref C) none H') (m : Mn R := by infer_instance) : tCallS (SpT2 R S Pre T f C) E (tCons ta (tCons tb tNil)) σ H Q :=
  ha F H (.refl e) _ fun v F1 H1 g1 r => hb F1 H1 g1 _ fun w F2 H2 g2 r2 => ⟨F2, v, w, x, y, rfl, g2.fh, m.mono g2.ff r, r2, p, fun z hz u F' H' g s => k z hz u F' H' ((g1.trans g2).trans g) s, fun hn F' H' g => kn hn F' H' ((g1.trans g2).trans g)⟩
theorem ev_callT2 {Pre : α → β → Prop} {f : α → β → Option γ} {E : XK} (ha : Ev R ta σ F H x) (hb : Ev S tb σ F H y) (p : Pre x y) (hz : f x y = some z) (m : Mn R := by infer_instance) : Ev T (tCall (SpT2 R S Pre T f C) [] E (tCons ta (tCons tb tNil))) σ F H z := fun F1 H1 g1 Q q =>
  ha F1 H1 g1 _ fun v F2 H2 g2 r => hb F2 H2 (g1.trans g2) _ fun w F3 H3 g3 r3 => ⟨F3, v, w, x, y, rfl, g3.fh, m.mono g3.ff r, r3, p, fun z' hz' u F' H' g s => by
    rw [hz] at hz'
    cases hz'
    exact q u F' H' ((g2.trans g3).trans g) s, fun hn => by rw [hz] at hn; cases hn⟩
end
def mapsM (t : Tn) : Option (List (List Nat)) := foundM (fun m => t.maps.map fun s => thenM m s) 300 (idMap t.many)
end El

set_option Elab.async false
set_option linter.all false
set_option maxRecDepth 100000
set_option maxHeartbeats 4000000
namespace El
open PySem PySem.Spec L2 PyProof.Rows
/-! ### the values of a dict, whatever its keys -/
section
variable {prog : Program} {w : World} {A : Around} {E : Value → Shared → Prop} {s : Shared}
theorem rv_meets {d : Addr} {es : Array DictEntry} {ep : Nat} (hd : (d == sysModules) = false) :
    MeetsIn prog w (Builtin.«dict.values» ⟨[.ref d], []⟩) (fun _ R s => DT.Raw s.heap d es ep ∧ R (.ok (.ret (.ref s.heap.objs.size))) { s with heap := s.heap.push { cls := .type "dict_values", data := .fields #[.ref d] } }) :=
  .of_wp fun A R s ⟨hm, h⟩ => by
    unfold Builtin.«dict.values»
    refine wpAny_bind ?_
    unfold Builtin.Dict.noArgs
    refine wpAny_bind (wpAny_notOrdered_dict hm.typeIs (show wpAny _ _ (pure d) _ _ s from wpAny_pure ?_))
    show wpAny _ _ (Builtin.Dict.showsAll d >>= _) _ _ s
    unfold Builtin.Dict.showsAll
    rw [if_neg (show ¬ ((d == sysModules) = true) by rw [hd]; exact Bool.false_ne_true)]
    exact wpAny_bind (wpAny_pure (wpAny_bind (wpAny_newObj_type (wpAny_pure ⟨_, rfl, h⟩))))
theorem rv_iter {v d : Addr} {es : Array DictEntry} {ep : Nat} {Q : Value → Shared → Prop} (hv : s.heap.IsValuesView v d) (hm : DT.Raw s.heap d es ep)
    (hQ : Q (.ref s.heap.objs.size) { s with heap := s.heap.push { cls := .type "dict_valueiterator", data := .fields #[.ref d, .int 0 0, .int es.size 0, .int ep 0] } }) : wpAny (model prog w) A (pyIter (.ref v)) Q E s := by
  obtain ⟨ov, hov, hcv, hdv⟩ := id hv
  obtain ⟨o, ho, hc, hdat⟩ := id hm
  refine wpAny_pyIter_slot hv.typeIs PySem.F.slot_dict_values_iter (wpAny_call_entry PySem.F.slot_dict_values_iter hv.typeIs PySem.F.entry_dict_values_iter ?_ (PySem.F.args_dict_values_iter_1 _))
  unfold Builtin.«dict_values.__iter__»
  refine wpAny_bind (wpAny_pure (wpAny_bind ?_))
  unfold Builtin.Dict_items.dictOf
  refine wpAny_bind (wpAny_field hov hdv (x := .ref d) rfl (wpAny_pure (wpAny_bind ?_)))
  unfold Builtin.Dict_items.newIterator
  refine wpAny_bind (wpAny_dictEntries ho hdat (wpAny_bind (wpAny_dictEpoch ho hdat ?_)))
  simp only [show Builtin.Dict_items.ownsTuple "dict_valueiterator" = false by decide, Bool.false_eq_true, if_false]
  refine wpAny_newObj_type (wpAny_pure ⟨_, rfl, "dict_valueiterator", _, ⟨_, Heap.get?_push_size _ rfl, rfl⟩, PySem.F.slot_dict_valueiterator_next.lookup, ?_⟩)
  simpa [rawInt] using hQ
theorem rv_item {it d : Addr} {i n ep : Nat} {od : Obj} {es : Array DictEntry} {en : DictEntry} {Q : Option Value → Shared → Prop} (hit : s.heap.IsValIter it d i n ep) (hod : s.heap.get? d = some od) (hdd : od.data = .dict es ep)
    (hsz : es.size = n) (hx : es[i]? = some en) (hQ : ∀ h', h'.IsValIter it d (i + 1) n ep → Heap.SameBut it s.heap h' → Q (some en.val) { s with heap := h' }) : wpAny (model prog w) A (pyNext (.ref it)) Q E s := by
  obtain ⟨o, ho, hc, hd⟩ := id hit
  unfold pyNext
  refine wpAny_bind (wpAny_attempt (wpAny_callSpecial?_slot (name := Str.ofString "__next__") hit.typeIs PySem.F.slot_dict_valueiterator_next (wpAny_call_entry PySem.F.slot_dict_valueiterator_next hit.typeIs PySem.F.entry_dict_valueiterator_next ?_ (PySem.F.args_dict_valueiterator_next_1 _))))
  refine wpAny_bind (wpAny_pure (wpAny_bind (wpAny_bind ?_)))
  first | refine wpAny_bind (wpAny_typeNameOfWhole_valiter hit.typeIs (wpAny_pure ?_)) | refine wpAny_bind (wpAny_typeNameOf_valiter hit.typeIs (wpAny_pure ?_))
  refine wpAny_bind (wpAny_fieldsOf ho hd ?_)
  simp only [show Builtin.Dict_items.ownsTuple "dict_valueiterator" = false by decide, Bool.false_eq_true, if_false]
  show wpAny _ _ (if (Value.ref d == Value.none) = true then _ else _) _ _ s
  rw [if_neg (show ¬ ((Value.ref d == Value.none) = true) from Bool.false_ne_true)]
  refine wpAny_bind (wpAny_pure (wpAny_bind (wpAny_dictEntries hod hdd ?_)))
  rw [if_neg (by rw [hsz]; simp)]
  refine wpAny_bind (wpAny_pure (wpAny_bind (wpAny_dictEpoch hod hdd ?_)))
  rw [if_neg (by simp)]
  refine wpAny_pure ?_
  obtain ⟨hlt', hen⟩ := Array.getElem?_eq_some_iff.mp hx
  simp only [show ¬ ((i : Int) < 0) from by omega, if_false, Int.toNat_natCast, Array.getElem?_eq_getElem hlt']
  refine wpAny_bind ?_
  first | refine wpAny_bind (wpAny_typeNameOfWhole_valiter hit.typeIs (wpAny_pure ?_)) | refine wpAny_bind (wpAny_typeNameOf_valiter hit.typeIs (wpAny_pure ?_))
  refine wpAny_bind (wpAny_isOneOf_valiter hit.typeIs ?_)
  show wpAny _ _ (setField (.ref it) 1 (rawInt ((i : Int) + 1)) >>= _) _ _ s
  refine wpAny_bind (wpAny_setField ho hd (by simp) ?_)
  have hit' : (s.heap.update it (Obj.mapFields (·.setIfInBounds 1 (rawInt ((i : Int) + 1))))).IsValIter it d (i + 1) n ep :=
    ⟨_, Heap.get?_update_self _ ho (Obj.isFreed_of_fields (Obj.data_mapFields hd _)), (Obj.cls_mapFields ..).trans hc, by rw [Obj.data_mapFields hd]; simp [rawInt]⟩
  refine wpAny_bind (wpAny_holding ?_)
  refine wpAny_bind (wpAny_isOneOf_valiter (s := { s with heap := s.heap.update it (Obj.mapFields (·.setIfInBounds 1 (rawInt ((i : Int) + 1)))) }) hit'.typeIs ?_)
  refine wpAny_bind (wpAny_isOneOf_valiter (s := { s with heap := s.heap.update it (Obj.mapFields (·.setIfInBounds 1 (rawInt ((i : Int) + 1)))) }) hit'.typeIs ?_)
  show wpAny _ _ (pure es[i].val) _ _ _
  rw [hen]
  exact wpAny_pure (wpAny_pure ⟨_, rfl, wpAny_pure (hQ _ hit' (Heap.SameBut.update ..))⟩)
theorem rv_end {it d : Addr} {i n ep : Nat} {od : Obj} {es : Array DictEntry} {Q : Option Value → Shared → Prop} (hh : A.handled = none) (hit : s.heap.IsValIter it d i n ep) (hod : s.heap.get? d = some od) (hdd : od.data = .dict es ep)
    (hsz : es.size = n) (hge : n ≤ i) (hQ : ∀ h', Heap.ExtBut it s.heap h' → Q none { s with heap := h' }) : wpAny (model prog w) A (pyNext (.ref it)) Q E s := by
  obtain ⟨o, ho, hc, hd⟩ := id hit
  unfold pyNext
  refine wpAny_bind (wpAny_attempt (wpAny_callSpecial?_slot (name := Str.ofString "__next__") hit.typeIs PySem.F.slot_dict_valueiterator_next (wpAny_call_entry PySem.F.slot_dict_valueiterator_next hit.typeIs PySem.F.entry_dict_valueiterator_next ?_ (PySem.F.args_dict_valueiterator_next_1 _))))
  refine wpAny_bind (wpAny_pure (wpAny_bind (wpAny_bind ?_)))
  first | refine wpAny_bind (wpAny_typeNameOfWhole_valiter hit.typeIs (wpAny_pure ?_)) | refine wpAny_bind (wpAny_typeNameOf_valiter hit.typeIs (wpAny_pure ?_))
  refine wpAny_bind (wpAny_fieldsOf ho hd ?_)
  simp only [show Builtin.Dict_items.ownsTuple "dict_valueiterator" = false by decide, Bool.false_eq_true, if_false]
  show wpAny _ _ (if (Value.ref d == Value.none) = true then _ else _) _ _ s
  rw [if_neg (show ¬ ((Value.ref d == Value.none) = true) from Bool.false_ne_true)]
  refine wpAny_bind (wpAny_pure (wpAny_bind (wpAny_dictEntries hod hdd ?_)))
  rw [if_neg (by rw [hsz]; simp)]
  refine wpAny_bind (wpAny_pure (wpAny_bind (wpAny_dictEpoch hod hdd ?_)))
  rw [if_neg (by simp)]
  refine wpAny_pure ?_
  have hge' : es.size ≤ i := by rw [hsz]; exact hge
  simp only [show ¬ ((i : Int) < 0) from by omega, if_false, Int.toNat_natCast, Array.getElem?_eq_none hge']
  refine wpAny_bind ?_
  first | refine wpAny_bind (wpAny_typeNameOfWhole_valiter hit.typeIs (wpAny_pure ?_)) | refine wpAny_bind (wpAny_typeNameOf_valiter hit.typeIs (wpAny_pure ?_))
  show wpAny _ _ (setField (.ref it) 0 .none >>= _) _ _ s
  refine wpAny_bind (wpAny_setField ho hd (by simp) ?_)
  show wpAny _ _ (newExc (.type "StopIteration") [] >>= _) _ _ _
  refine wpAny_bind ?_
  simp only [newExc, newTuple]
  refine wpAny_bind (wpAny_newObj_type ?_ (by size_fits))
  refine wpAny_bind (m := firstArgMember _ _) (wpAny_of_eq (a := Value.none) (by first | rfl | (simp only [firstArgMember]; rfl)) ?_)
  refine wpAny_newObj_type ?_ (by size_fits)
  simp only [raiseNew]
  refine wpAny_bind (wpAny_handled ?_)
  rw [show A.in1.handled = none from hh]
  refine wpAny_bind (wpAny_pure (wpAny_throw ?_))
  refine wpAny_bind (wpAny_isInstance (T := "StopIteration") (b := true) ⟨_, Heap.get?_push_size _ rfl, rfl⟩ isSubtype_stop ?_)
  exact wpAny_pure (hQ _ (((Heap.SameBut.update ..).extBut.push _).push _))
theorem rv_self {it d : Addr} {i n ep : Nat} {Q : Value → Shared → Prop} (st : s.heap.IsValIter it d i n ep) (hQ : Q (.ref it) s) : wpAny (model prog w) A (pyIter (.ref it)) Q E s := wpAny_pyIter_valiter st hQ
theorem rv_walks {o : Obj} {es : Array DictEntry} {ep : Nat} (hh : A.handled = none) (I d : Addr) (hne : d ≠ I) (hd : o.data = .dict es ep) :
    Walks prog w A I [I, d] [I] es.size (fun i v => ∃ en : DictEntry, es[i]? = some en ∧ v = en.val) (fun i h => h.IsValIter I d i es.size ep ∧ h.get? d = some o) where
  sub := fun b hb => by simp at hb; simp [hb]
  frame := fun _ _ _ st hk => ⟨let ⟨ob, e, r⟩ := st.1; ⟨ob, hk I (by simp) ob e, r⟩, hk d (by simp) o st.2⟩
  item := fun i s Q E hi st hQ => by
    have hx : es[i]? = some es[i] := Array.getElem?_eq_getElem hi
    refine rv_item st.1 st.2 hd rfl hx fun h' hit' sb => ?_
    exact hQ _ h' s.toks ⟨_, hx, rfl⟩ ⟨hit', (sb.2 d hne).trans st.2⟩ fun b ob hb e => (sb.2 b (fun z => hb (by simp [z]))).trans e
  done := fun s Q E st hQ => rv_end hh st.1 st.2 hd rfl (Nat.le_refl _) fun h' he' => hQ h' s.toks fun b ob hb e => he' b ob (fun z => hb (by simp [z])) e
  self := fun _ _ _ _ st hQ => rv_self st.1 hQ
theorem rv_src {r d : Addr} {o : Obj} {es : Array DictEntry} {ep : Nat} (hx : o.ExactDict) (hd : o.data = .dict es ep) :
    PySem.W.KdlSrc prog w "dict_values" r d es.size (fun i v => ∃ en : DictEntry, es[i]? = some en ∧ v = en.val) (fun h => h.IsValuesView r d ∧ h.get? d = some o) where
  type := fun _ hm => hm.1.typeIs
  there := fun _ hm => ⟨let ⟨_, ho, _⟩ := hm.1; Heap.lt_size ho, Heap.lt_size hm.2⟩
  keep := fun _ _ hm hk => ⟨let ⟨o, ho, x⟩ := hm.1; ⟨o, hk r (.inl rfl) o ho, x⟩, hk d (.inr rfl) _ hm.2⟩
  notList := by decide
  notTuple := by decide
  hint := fun _ _ _ _ hm hq => PySem.W.kdl_hint_values hm.1.typeIs hq
  iter := fun _ s hh hm => ⟨_, _, (fun _ _ hq => rv_iter hm.1 ⟨o, hm.2, hx, hd⟩ hq), rv_walks hh _ d (Nat.ne_of_lt (Heap.lt_size hm.2)) hd, ⟨⟨_, Heap.get?_push_size _ rfl, rfl, rfl⟩, Heap.get?_push_of_some _ hm.2⟩⟩
end
/-- the view d.values() at p -/
def valsO (p d : Addr) : HO := .ext fun h => h.IsValuesView p d
theorem valsO_ok {P : Program} {w : World} {H : Hp} {h : Heap} {p d : Addr} (e : h.get? p = some { cls := .type "dict_values", data := .fields #[.ref d] }) : ObjOk P w H h p (valsO p d) :=
  ⟨⟨_, e, rfl, rfl⟩, ⟨_, e⟩, fun h1 h2 x k => let ⟨o, ho, r⟩ := x; ⟨o, k o ho, r⟩⟩
section
variable {X : Cx}
def rValuesT : V → List V → Hp → VK → Prop := fun x xs H Q => ∃ (a : Addr) (kvs : List (List L2.Key × V)), x = .ref a ∧ xs = [] ∧ H a = some (.dT kvs) ∧ ∀ p, H p = none → Q (.ref p) (upd H p (valsO p a))
theorem mt_valuesT : MtR X "dict.values" rValuesT := by
  intro pins s σ H x xs v us Q I rx rxs h
  obtain ⟨a, kvs, rfl, rfl, ha, q⟩ := h
  cases rx
  cases rxs
  obtain ⟨hd, z, o, es, ep, ho, hx, hdat, hsz, ent⟩ := rawT I (.inl ha)
  refine call_meetsIn PySem.F.slot_dict_values (⟨o, ho, hx.1⟩ : s.TypeIs (.ref a) "dict") PySem.F.entry_dict_values (PySem.F.args_dict_values_1 _) (rv_meets (es := es) (ep := ep) hd) ⟨⟨o, ho, hx, hdat⟩, ?_⟩
  have hf : H s.heap.objs.size = none := I.hok.fresh (Nat.le_refl _)
  exact ⟨.ref s.heap.objs.size, upd H s.heap.objs.size (valsO s.heap.objs.size a), I.laid (t' := s.toks) (fun b u e => Heap.get?_push_of_some _ e) (Nat.le_refl _) (valsO_ok (Heap.get?_push_size _ rfl)), rfl, q _ hf⟩
/-- list(a view of values) -/
def rListVals : List V → Hp → VK → Prop := fun xs H Q => ∃ p d kvs, xs = [V.ref p] ∧ H p = some (valsO p d) ∧ H d = some (.dT kvs) ∧ ∀ l, H l = none → Q (.ref l) (upd H l (.lst (kvs.map (·.2))))
theorem call_listVals (hc : X.calm = true) : CallR X (.type "list") rListVals := by
  intro pins s σ H xs us Q I r h
  obtain ⟨p, d, kvs, rfl, hp, hd, q⟩ := h
  obtain ⟨u, rfl, rx⟩ := r.one
  cases rx
  have view : s.heap.IsValuesView p d := (show ObjOk X.prog X.w H s.heap p (valsO p d) from I.hok p _ hp).1
  obtain ⟨hs, z, o, es, ep, ho, hx, hdt, hsz, ent⟩ := rawT I (.inl hd)
  refine PySem.W.kdl_call (rv_src hx hdt) (I.ok.hd hc) ⟨view, ho⟩ (by omega) fun h' tk acc' c' kp e it => ?_
  have rv : Vals (kvs.map (·.2)) acc'.toList := by
    have hlen : (kvs.map (·.2)).length = acc'.toList.length := by
      have h1 := it.1
      have h2 : acc'.toList.length = acc'.size := by simp
      rw [List.length_map]
      omega
    refine vals_of_at hlen fun j x u h1 h2 => ?_
    obtain ⟨en, hen, hv⟩ := it.2 j u (by rw [← Array.getElem?_toList]; exact h2)
    rw [List.getElem?_map] at h1
    cases hk : kvs[j]? with
    | none => rw [hk] at h1; cases h1
    | some kv =>
      rw [hk] at h1
      obtain ⟨k, v⟩ := kv
      obtain ⟨en', q', hen', _, _, rel⟩ := ent j k v hk
      rw [hen] at hen'
      cases hen'
      rw [hv, ← Option.some.inj h1]
      exact rel
  refine ⟨.ref s.heap.objs.size, _, I.laid (t' := tk) (o := .lst (kvs.map (·.2))) kp (Nat.le_refl _) ⟨by rw [List.length_map]; exact z, acc'.toList, c', rv, by rw [Array.toArray_toList]; exact e⟩, rfl, q _ (I.hok.fresh (Nat.le_refl _))⟩
end
end El

set_option Elab.async false
set_option linter.all false
set_option maxRecDepth 100000
set_option maxHeartbeats 4000000
namespace El
open PySem PySem.Spec L2 PyProof.Rows
/-! ### list(d.items()) -/
section
variable {prog : Program} {w : World} {A : Around} {E : Value → Shared → Prop} {s : Shared} {r d : Addr} {es : Array DictEntry} {ep : Nat}
theorem ri_init {R : Result → Shared → Prop} (hh : A.handled = none) (hv : s.heap.IsItemsView r d) (hm : DT.Raw s.heap d es ep) (S : Addr) (hSr : S ≠ r) (hSd : d ≠ S) (hS : s.heap.get? S = some { cls := .type "list", data := .seq #[] })
    (hR : ∀ h' tk acc c as, (∀ b o, b ≠ S → s.heap.get? b = some o → h'.get? b = some o) → h'.get? S = some { cls := .type "list", dict := none, data := .seq acc c, slots := #[] } → as.length = es.size → DT.Made es s.heap.objs.size h' as → acc.toList = as.map Value.ref → R (.ok (.ret .none)) { s with heap := h', toks := tk }) (hn : es.size ≤ sizeLine) :
    wpAny (model prog w) A.in1 (Builtin.«list.__init__» ⟨[.ref S, .ref r], []⟩)
      (fun fin s' => match fin with | .done f => R (.ok f) s' | .again c' => c'.quiet = true ∧ codeAny (model prog w) A c' R s') (fun e s' => R (.error e) s') s := by
  show wpAny _ _ (do let old ← Builtin.List.listItems (.ref S); Builtin.List.listUpdate (.ref S) (fun _ => #[]); letGo old.toList.reverse; Builtin.List.listExtendWith (.ref S) (.ref r) .none) _ _ s
  refine wpAny_bind ?_
  unfold Builtin.List.listItems
  refine wpAny_bind (wpAny_seqItems hS rfl (wpAny_pure ?_))
  show wpAny _ _ (updateSeq S (fun _ => #[]) >>= fun _ => letGo (#[] : Array Value).toList.reverse >>= fun _ => Builtin.List.listExtendWith (.ref S) (.ref r) .none) _ _ s
  refine wpAny_bind (wpAny_updateSeq hS rfl ?_)
  have hS₂ := Heap.get?_update_self (Obj.mapSeq (fun _ => (#[] : Array Value))) hS rfl
  have oth : ∀ b o, b ≠ S → s.heap.get? b = some o → (s.heap.update S (Obj.mapSeq (fun _ => (#[] : Array Value)))).get? b = some o := fun b o hb e => (Heap.get?_update_other _ _ (Ne.symm hb)).trans e
  refine wpAny_bind (wpAny_letGo ?_)
  have hz : (s.heap.update S (Obj.mapSeq (fun _ => (#[] : Array Value)))).objs.size = s.heap.objs.size := Heap.size_update ..
  refine DT.extI (s := { s with heap := s.heap.update S (Obj.mapSeq (fun _ => (#[] : Array Value))) }) hh (let ⟨o, ho, x⟩ := hv; ⟨o, oth _ _ hSr.symm ho, x⟩) (hm.at' fun o e => oth d o hSd e) S hSr hSd .none _ hS₂ (fun h' tk acc c as hk hS' hl hG hacc => ?_) hn
  exact hR h' tk acc c as (fun b o hb e => hk b o hb (oth b o hb e)) hS' hl (by rw [← hz]; exact hG) hacc
theorem ri_call {Q : Value → Shared → Prop} (hh : A.handled = none) (hv : s.heap.IsItemsView r d) (hm : DT.Raw s.heap d es ep) (hn : es.size ≤ sizeLine)
    (hQ : ∀ h' tk acc c as, (∀ b o, s.heap.get? b = some o → h'.get? b = some o) → h'.get? s.heap.objs.size = some { cls := .type "list", dict := none, data := .seq acc c, slots := #[] } → as.length = es.size → DT.Made es s.heap.objs.size h' as → acc.toList = as.map Value.ref → Q (.ref s.heap.objs.size) { s with heap := h', toks := tk }) :
    wpAny (model prog w) A (call (.type "list") [.ref r]) Q E s := by
  refine callType_codes (Q₁ := fun obj s₁ => obj = .ref s.heap.objs.size ∧ s₁ = { s with heap := s.heap.push { cls := .type "list", data := .seq #[] } }) PySem.F.called_list (PySem.F.typeCall_list_1 _) PySem.F.entry_list_init (code_list_new _ ⟨rfl, rfl⟩) fun obj s₁ h₁ => ?_
  obtain ⟨rfl, rfl⟩ := h₁
  have hS : (s.heap.push { cls := .type "list", data := .seq #[] }).get? s.heap.objs.size = some { cls := .type "list", data := .seq #[] } := Heap.get?_push_size _ rfl
  have hr : r < s.heap.objs.size := let ⟨_, ho, _⟩ := hv; Heap.lt_size ho
  have hd : d < s.heap.objs.size := hm.lt
  refine ⟨⟨_, hS, rfl⟩, PySem.F.args_list_init_2 _ _, ri_init (A := A.in1) hh (let ⟨o, ho, x⟩ := hv; ⟨o, Heap.get?_push_of_some _ ho, x⟩) (hm.push _) _ (Nat.ne_of_gt hr) (Nat.ne_of_lt hd) hS (fun h' tk acc c as hk hS' hl hG hacc => ?_) hn⟩
  exact ⟨rfl, hQ h' tk acc c as (fun b o e => hk b o (Nat.ne_of_lt (Heap.lt_size e)) (Heap.get?_push_of_some _ e)) hS' hl (hG.low (by show s.heap.objs.size ≤ (s.heap.push _).objs.size; rw [Heap.size_push]; exact Nat.le_succ _)) hacc⟩
end
section
variable {X : Cx}
def rListItems : List V → Hp → VK → Prop := fun xs H Q => ∃ p d kvs, xs = [V.ref p] ∧ H p = some (DX.itemsO p d) ∧ H d = some (.dT kvs) ∧ ∀ (H' : Hp) (l : Addr) (ts : List Addr), (∀ b o, H b = some o → H' b = some o) → H l = none → H' l = some (.lst (ts.map V.ref)) → ts.length = kvs.length →
  (∀ (j : Nat) (t : Addr) (k : List L2.Key) (v : V), ts[j]? = some t → kvs[j]? = some (k, v) → ∃ q, H' t = some (.tup [.ref q, v]) ∧ H' q = some (.tup (k.map kV))) → Q (.ref l) H'
theorem call_listItems (hc : X.calm = true) : CallR X (.type "list") rListItems := by
  intro pins s σ H xs us Q I r h
  obtain ⟨p, d, kvs, rfl, hp, hd, q⟩ := h
  obtain ⟨u, rfl, rx⟩ := r.one
  cases rx
  have view : s.heap.IsItemsView p d := (show ObjOk X.prog X.w H s.heap p (DX.itemsO p d) from I.hok p _ hp).1
  obtain ⟨hs, z, o, es, ep, ho, hx, hdt, hsz, ent⟩ := rawT I (.inl hd)
  refine ri_call (I.ok.hd hc) view ⟨o, ho, hx, hdt⟩ (by omega) fun h' tk acc c as kp hS hl hG hacc => ?_
  have nd : as.Nodup := List.Pairwise.imp (fun h => Nat.ne_of_lt h) hG.rise
  have hn0 : H s.heap.objs.size = none := I.hok.fresh (Nat.le_refl _)
  have pr : ∀ (j : Nat) (b : Addr), as[j]? = some b → ∃ (k : List L2.Key) (v : V) (q : Addr) (u : Value), kvs[j]? = some (k, v) ∧ H q = some (.tup (k.map kV)) ∧ RelV v u ∧ h'.get? b = some { cls := .type "tuple", data := .seq #[Value.ref q, u] } := by
    intro j b hj
    obtain ⟨en, he, hg⟩ := hG.pairs j b hj
    have hj2 : j < kvs.length := by
      have := (List.getElem?_eq_some_iff.mp hj).1
      omega
    obtain ⟨⟨k, v⟩, hkv⟩ : ∃ x, kvs[j]? = some x := ⟨_, List.getElem?_eq_getElem hj2⟩
    obtain ⟨en', q', h1, h2, h3, h4⟩ := ent j k v hkv
    rw [he] at h1
    cases h1
    rw [h2] at hg
    exact ⟨k, v, q', _, hkv, h3, h4, hg⟩
  have I1 : Inv X pins σ (upd H s.heap.objs.size (.lst (as.map V.ref))) { s with heap := h', toks := tk } := by
    refine I.laid (t' := tk) (o := .lst (as.map V.ref)) kp (Nat.le_refl _) ⟨by rw [List.length_map, hl]; omega, acc.toList, c, by rw [hacc]; exact vals_refs as, by rw [Array.toArray_toList]; exact hS⟩
  obtain ⟨H2, I3, g, qt⟩ := DX.takeT (P := fun b vs => ∃ (j : Nat) (k : List L2.Key) (v : V) (q : Addr), as[j]? = some b ∧ kvs[j]? = some (k, v) ∧ H q = some (.tup (k.map kV)) ∧ vs = [.ref q, v]) I as _ I1 nd fun b hb => by
    obtain ⟨j, hj⟩ := List.mem_iff_getElem?.mp hb
    obtain ⟨k, v, q', u, h1, h2, h3, h4⟩ := pr j b hj
    have hbl : s.heap.objs.size < b := hG.above b hb
    refine ⟨Nat.le_of_lt hbl, ?_, [.ref q', v], ⟨j, k, v, q', hj, h1, h2, rfl⟩, fun H3 => ⟨by show 2 ≤ sizeLine; decide, [Value.ref q', u], .cons rfl (.cons h3 .nil), ⟨_, h4, rfl, 0, rfl⟩⟩⟩
    rw [upd_ne (Nat.ne_of_gt hbl)]
    exact I.hok.fresh (Nat.le_of_lt hbl)
  have gr : ∀ b o, H b = some o → H2 b = some o := fun b o e => g b o (by rw [upd_ne (ne_of_none e hn0)]; exact e)
  refine ⟨.ref s.heap.objs.size, H2, I3, rfl, q H2 s.heap.objs.size as gr hn0 (g _ _ upd_same) (by rw [hl]; exact hsz) fun j t k v hj hkv => ?_⟩
  obtain ⟨vs, ⟨i, k', v', q', j1, j2, j3, ev⟩, hH⟩ := qt t (List.mem_of_getElem? hj)
  have eij : i = j := (List.getElem?_inj (List.getElem?_eq_some_iff.mp j1).1 nd).mp (j1.trans hj.symm)
  subst eij
  rw [hkv] at j2
  cases j2
  rw [ev] at hH
  exact ⟨q', hH, gr _ _ j3⟩
end
/-! ### sorted(xs), xs pairs of a tuple of whole numbers and a whole number -/
def lexL : List Int → List Int → Bool
  | [], ys => !ys.isEmpty
  | _ :: _, [] => false
  | x :: xs, y :: ys => if x = y then lexL xs ys else decide (x < y)
theorem lexL_asym : ∀ {a b : List Int}, lexL a b = true → lexL b a = false
  | [], [], h => by cases h
  | [], _ :: _, _ => rfl
  | _ :: _, [], h => by cases h
  | x :: a, y :: b, h => by
    rw [lexL] at h ⊢
    by_cases e : x = y
    · rw [if_pos e] at h
      rw [if_pos e.symm]
      exact lexL_asym h
    · rw [if_neg e] at h
      rw [if_neg (fun z => e z.symm)]
      have := of_decide_eq_true h
      exact decide_eq_false (by omega)
theorem lexL_tot : ∀ {a b : List Int}, lexL a b = false → lexL b a = false → a = b
  | [], [], _, _ => rfl
  | [], _ :: _, h, _ => by cases h
  | _ :: _, [], _, h => by cases h
  | x :: a, y :: b, h1, h2 => by
    rw [lexL] at h1 h2
    by_cases e : x = y
    · rw [if_pos e] at h1
      rw [if_pos e.symm] at h2
      rw [e, lexL_tot h1 h2]
    · rw [if_neg e] at h1
      rw [if_neg (fun z => e z.symm)] at h2
      have a1 := of_decide_eq_false h1
      have a2 := of_decide_eq_false h2
      omega
theorem lexL_tr : ∀ {a b c : List Int}, lexL b a = false → lexL c b = false → lexL c a = false
  | a, b, [], h1, h2 => by
    cases b with
    | nil => exact h1
    | cons y b => cases h2
  | [], b, z :: c, h1, h2 => rfl
  | x :: a, [], z :: c, h1, h2 => by cases h1
  | x :: a, y :: b, z :: c, h1, h2 => by
    rw [lexL] at h1 h2 ⊢
    by_cases e1 : y = x
    · rw [if_pos e1] at h1
      by_cases e2 : z = y
      · rw [if_pos e2] at h2
        rw [if_pos (e2.trans e1)]
        exact lexL_tr h1 h2
      · rw [if_neg e2] at h2
        have := of_decide_eq_false h2
        rw [if_neg (by omega)]
        exact decide_eq_false (by omega)
    · rw [if_neg e1] at h1
      have a1 := of_decide_eq_false h1
      by_cases e2 : z = y
      · rw [if_neg (by omega)]
        exact decide_eq_false (by omega)
      · rw [if_neg e2] at h2
        have := of_decide_eq_false h2
        rw [if_neg (by omega)]
        exact decide_eq_false (by omega)
def lexKV (p q : List Int × Int) : Bool := if p.1 = q.1 then decide (p.2 < q.2) else lexL p.1 q.1
theorem lexKV_swo {α : Type} (k : α → List Int × Int) : SrtO.Swo fun x y => lexKV (k x) (k y) := by
  refine ⟨fun x y h => ?_, fun x y z h1 h2 => ?_⟩
  · unfold lexKV at h ⊢
    by_cases e : (k x).1 = (k y).1
    · rw [if_pos e] at h
      rw [if_pos e.symm]
      have := of_decide_eq_true h
      exact decide_eq_false (by omega)
    · rw [if_neg e] at h
      rw [if_neg (fun z => e z.symm)]
      exact lexL_asym h
  · unfold lexKV at h1 h2 ⊢
    by_cases e1 : (k y).1 = (k x).1
    · rw [if_pos e1] at h1
      have a1 := of_decide_eq_false h1
      by_cases e2 : (k z).1 = (k y).1
      · rw [if_pos e2] at h2
        have a2 := of_decide_eq_false h2
        rw [if_pos (e2.trans e1)]
        exact decide_eq_false (by omega)
      · rw [if_neg e2] at h2
        rw [if_neg (fun q => e2 (q.trans e1.symm)), ← e1]
        exact h2
    · rw [if_neg e1] at h1
      by_cases e2 : (k z).1 = (k y).1
      · rw [if_neg (fun q => e1 (e2.symm.trans q)), e2]
        exact h1
      · rw [if_neg e2] at h2
        by_cases e3 : (k z).1 = (k x).1
        · exact absurd (lexL_tot h1 (by rw [← e3]; exact h2)).symm (fun q => e1 q.symm)
        · rw [if_neg e3]
          exact lexL_tr h1 h2
theorem lexAt_lexL : ∀ (n : Nat) (xs ys : List Int) (i : Nat), min xs.length ys.length - i = n → i ≤ min xs.length ys.length →
    Ob.lexAt (fun j => decide (xs.getD j 0 = ys.getD j 0)) (fun j => decide (xs.getD j 0 < ys.getD j 0)) (decide (xs.length < ys.length)) i n = lexL (xs.drop i) (ys.drop i)
  | 0, xs, ys, i, h, hi => by
    rw [Ob.lexAt_zero]
    rcases Nat.lt_or_ge xs.length ys.length with q | q
    · rw [decide_eq_true q, List.drop_of_length_le (show xs.length ≤ i by omega)]
      obtain ⟨y, r, e⟩ : ∃ y r, ys.drop i = y :: r := by
        cases e : ys.drop i with
        | nil =>
          have := congrArg List.length e
          rw [List.length_drop] at this
          simp at this
          omega
        | cons y r => exact ⟨y, r, rfl⟩
      rw [e]
      rfl
    · rw [decide_eq_false (by omega), List.drop_of_length_le (show ys.length ≤ i by omega)]
      cases xs.drop i with
      | nil => rfl
      | cons _ _ => rfl
  | n + 1, xs, ys, i, h, hi => by
    have hx : i < xs.length := by omega
    have hy : i < ys.length := by omega
    have ex : xs.getD i 0 = xs[i] := by rw [List.getD_eq_getElem?_getD, List.getElem?_eq_getElem hx]; rfl
    have ey : ys.getD i 0 = ys[i] := by rw [List.getD_eq_getElem?_getD, List.getElem?_eq_getElem hy]; rfl
    rw [Ob.lexAt_succ, List.drop_eq_getElem_cons hx, List.drop_eq_getElem_cons hy, lexL, ex, ey]
    by_cases e : xs[i] = ys[i]
    · rw [if_pos (decide_eq_true e), if_pos e]
      exact lexAt_lexL n xs ys (i + 1) (by omega) (by omega)
    · rw [if_neg (by rw [decide_eq_false e]; exact Bool.false_ne_true), if_neg e]
end El

set_option Elab.async false
set_option linter.all false
set_option maxRecDepth 100000
set_option maxHeartbeats 4000000
namespace El
open PySem PySem.Spec L2 PyProof.Rows
/-- v is a pair: a tuple of the whole numbers ks, a whole number n -/
def IsKV (prog : Program) (w : World) (h : Heap) (v : Value) (p : List Int × Int) : Prop :=
  ∃ (a : Addr) (o : Obj) (q : Addr) (t : Tok) (nn : Nat), v = .ref a ∧ h.get? a = some o ∧ o.cls = .type "tuple" ∧ o.data = .seq #[.ref q, .int p.2 t] nn ∧ IsTupleKey (intKind prog w) h p.1 q
section
variable {prog : Program} {w : World} {A : Around} {E : Value → Shared → Prop} {s : Shared}
theorem tupKey_keeps {h h' : Heap} {ks : List Int} {q : Addr} (x : IsTupleKey (intKind prog w) h ks q) (k : ∀ b o, h.get? b = some o → o.cls = .type "tuple" → h'.get? b = some o) : IsTupleKey (intKind prog w) h' ks q := by
  obtain ⟨o, its, n, h1, h2, h3, h4⟩ := x
  exact ⟨o, its, n, k _ _ h1 h2, h2, h3, h4⟩
theorem IsKV.keeps {h h' : Heap} {v : Value} {p : List Int × Int} (x : IsKV prog w h v p) (k : ∀ b o, h.get? b = some o → o.cls = .type "tuple" → h'.get? b = some o) : IsKV prog w h' v p := by
  obtain ⟨a, o, q, t, nn, e, h1, h2, h3, h4⟩ := x
  exact ⟨a, o, q, t, nn, e, k _ _ h1 h2, h2, h3, tupKey_keeps h4 k⟩
theorem items_int {ks : List Int} {vs : List Value} (h : ItemsAre (intKind prog w) ks vs) : ks.length = vs.length ∧ ∀ (j : Nat) (v : Value), vs[j]? = some v → ∃ t, v = .int (ks.getD j 0) t := by
  induction h with
  | nil => exact ⟨rfl, fun j v e => by simp at e⟩
  | @cons k v ks vs hk t ih =>
    refine ⟨by rw [List.length_cons, List.length_cons, ih.1], fun j u e => ?_⟩
    cases j with
    | zero =>
      obtain rfl := Option.some.inj e
      have hk : Value.isInt k v = true := hk
      cases v with
      | int i t =>
        have : i = k := by simpa [Value.isInt] using hk
        exact ⟨t, by rw [this]; rfl⟩
      | _ => simp [Value.isInt] at hk
    | succ j =>
      obtain ⟨t, ht⟩ := ih.2 j u (by simpa using e)
      exact ⟨t, by rw [ht]; rfl⟩
theorem lt_tupInts {xs ys : List Int} {a b : Addr} {Q : Value → Shared → Prop} (hu : A.units < cLine) (hx : IsTupleKey (intKind prog w) s.heap xs a) (hy : IsTupleKey (intKind prog w) s.heap ys b) (h : Q (.bool (lexL xs ys)) s) : wpAny (model prog w) A (compareOp .Lt (.ref a) (.ref b)) Q E s := by
  obtain ⟨o, its, n, h1, h2, h3, h4⟩ := hx
  obtain ⟨o', its', n', h1', h2', h3', h4'⟩ := hy
  obtain ⟨l1, f1⟩ := items_int h4
  obtain ⟨l2, f2⟩ := items_int h4'
  have z1 : its.size = xs.length := by rw [l1]; simp
  have z2 : its'.size = ys.length := by rw [l2]; simp
  have key := Ob.RcOp.tuples_lt (A := A) (s := s) (l := a) (b := b) (items := its) (items2 := its') (e := fun j => decide (xs.getD j 0 = ys.getD j 0)) (r := fun j => decide (xs.getD j 0 < ys.getD j 0)) ⟨o, h1, h2, n, h3⟩ ⟨o', h1', h2', n', h3'⟩ hu
    (fun j j1 j2 => by
      obtain ⟨t, ht⟩ := f1 j its[j] (by rw [Array.getElem?_toList]; exact Array.getElem?_eq_getElem j1)
      obtain ⟨u, hu'⟩ := f2 j its'[j] (by rw [Array.getElem?_toList]; exact Array.getElem?_eq_getElem j2)
      rw [ht, hu']
      have := SeqAt.EqAt.int_int (A := A.in1) (s := s) (xs.getD j 0) t (ys.getD j 0) u
      have e : (xs.getD j 0 == ys.getD j 0) = decide (xs.getD j 0 = ys.getD j 0) := by
        by_cases q : xs.getD j 0 = ys.getD j 0
        · rw [decide_eq_true q, q, beq_self_eq_true]
        · rw [decide_eq_false q]
          exact beq_eq_false_iff_ne.mpr q
      rw [e] at this
      exact this)
    (fun j j1 j2 _ => by
      obtain ⟨t, ht⟩ := f1 j its[j] (by rw [Array.getElem?_toList]; exact Array.getElem?_eq_getElem j1)
      obtain ⟨u, hu'⟩ := f2 j its'[j] (by rw [Array.getElem?_toList]; exact Array.getElem?_eq_getElem j2)
      rw [ht, hu']
      exact Ob.RcOp.lt_int _ _ t u)
  rw [z1, z2] at key
  have e := lexAt_lexL (min xs.length ys.length) xs ys 0 (Nat.sub_zero _) (Nat.zero_le _)
  rw [List.drop_zero, List.drop_zero] at e
  rw [e] at key
  exact key prog w E Q h
theorem kv_cmp {vs : List Value} {k : Value → List Int × Int} (hu : A.units < cLine) (hp : ∀ v ∈ vs, IsKV prog w s.heap v (k v)) : SrtO.Cmp prog w A s (tuples' false) (fun p => p.1 ∈ vs) (SrtO.lt2 fun v u => lexKV (k v) (k u)) := by
  intro p q hm hm'
  have h1 := hp _ hm
  have h2 := hp _ hm'
  show wpAny (model prog w) A (keyLt' (tuples' false) p.1 q.1) (fun r s' => s' = s ∧ r = lexKV (k p.1) (k q.1)) (fun _ _ => False) s
  unfold lexKV
  generalize k p.1 = x at h1 ⊢
  generalize k q.1 = y at h2 ⊢
  obtain ⟨a, o, kq, t, n, e, ho, hc, hd, hk⟩ := h1
  obtain ⟨a', o', kq', t', n', e', ho', hc', hd', hk'⟩ := h2
  rw [e, e']
  refine PySem.W.kat_lt ho hd ho' hd' ?_
  show PySem.W.KatLex prog w A false (decide (2 < 2)) _ [(.ref kq, .ref kq'), (.int x.2 t, .int y.2 t')] 0 s
  refine PySem.W.kat_cons (wpAny_eqBool_tuple hu hk hk' ?_)
  refine PySem.W.kat_go (fun e1 => ?_) (fun e1 => ?_)
  · have ex : x.1 = y.1 := of_decide_eq_true e1
    refine PySem.W.kat_yes (PySem.W.kat_cons (SeqAt.EqAt.int_int x.2 t y.2 t' prog w _ _ ?_))
    refine PySem.W.kat_go (fun e2 => ?_) (fun e2 => ?_)
    · have ey : x.2 = y.2 := by simpa using e2
      have e3 : (if x.1 = y.1 then decide (x.2 < y.2) else lexL x.1 y.1) = false := by
        rw [if_pos ex, ey]
        exact decide_eq_false (Int.lt_irrefl _)
      exact PySem.W.kat_yes (PySem.W.kat_nil ⟨rfl, e3.symm⟩)
    · have e3 : (if x.1 = y.1 then decide (x.2 < y.2) else lexL x.1 y.1) = decide (x.2 < y.2) := if_pos ex
      refine PySem.W.kat_no (PySem.W.kat_one _ _ (PyProof.Rows.lt_int ?_))
      exact (show s = s ∧ decide (x.2 < y.2) = (if x.1 = y.1 then decide (x.2 < y.2) else lexL x.1 y.1) from ⟨rfl, e3.symm⟩)
  · have ex : ¬ x.1 = y.1 := of_decide_eq_false e1
    have e3 : (if x.1 = y.1 then decide (x.2 < y.2) else lexL x.1 y.1) = lexL x.1 y.1 := if_neg ex
    refine PySem.W.kat_no ?_
    show wpAny _ _ (oneLt' false _ _) _ _ _
    exact PySem.W.kat_one _ _ (lt_tupInts hu hk hk' (show s = s ∧ lexL x.1 y.1 = (if x.1 = y.1 then decide (x.2 < y.2) else lexL x.1 y.1) from ⟨rfl, e3.symm⟩))
theorem kv_firsts {h : Heap} {k : Value → List Int × Int} : ∀ {vs : List Value}, (∀ v ∈ vs, IsKV prog w h v (k v)) → ∃ fs : List Value, PySem.W.KatTups h vs fs ∧ fs.length = vs.length ∧ ∀ f ∈ fs, ∃ (q : Addr) (o : Obj), f = Value.ref q ∧ h.get? q = some o ∧ o.cls = .type "tuple"
  | [], _ => ⟨[], PySem.W.KatTups.nil, rfl, fun f hf => by simp at hf⟩
  | v :: vs, x => by
    obtain ⟨fs, t, hl, hi⟩ := kv_firsts (vs := vs) fun u hu => x u (List.mem_cons_of_mem _ hu)
    obtain ⟨a, o, q, tk, nn, e, ho, hc, hd, ⟨o2, its2, n2, ho2, hc2, hd2, _⟩⟩ := x v (List.mem_cons_self ..)
    rw [e]
    refine ⟨.ref q :: fs, PySem.W.KatTups.cons ho hc hd rfl t, by rw [List.length_cons, List.length_cons, hl], fun f hf => ?_⟩
    rcases List.mem_cons.mp hf with rfl | hf
    · exact ⟨q, o2, rfl, ho2, hc2⟩
    · exact hi f hf
theorem kv_sortable {a : Addr} {vs : List Value} {k : Value → List Int × Int} (hu : A.units < cLine) (h0 : 0 < vs.length) (hp : ∀ v ∈ vs, IsKV prog w s.heap v (k v)) (ha : ∀ o, s.heap.get? a = some o → o.cls ≠ .type "tuple") : SrtO.SortableO prog w A s a vs fun v u => lexKV (k v) (k u) := by
  intro h' keep
  have hp' : ∀ v ∈ vs, IsKV prog w h' v (k v) := fun v hm => (hp v hm).keeps fun b o e c => keep b o (fun z => by subst z; exact ha o e c) e
  obtain ⟨fs, h1, h2, h3⟩ := kv_firsts hp'
  refine ⟨tuples' false, fun Q E hq => ?_, kv_cmp (s := { s with heap := h' }) hu hp'⟩
  refine PySem.W.kat_kind (T := .type "tuple") h1 (by omega) (fun f hm => ?_) (by rfl) ?_
  · obtain ⟨q, o, rfl, ho, hc⟩ := h3 f hm
    have z : PySem.W.Looks (model prog w) h' (typeOf (.ref q)) o.cls := (PySem.W.Looks.ld ho).andThen .now
    rw [hc] at z
    exact z
  · have e : (Value.type "tuple" != Value.type "tuple") = false := by first | rfl | decide +kernel | decide | simp
    rw [e]
    exact hq
theorem sorted_kv {l : Addr} {vs : List Value} {k : Value → List Int × Int} {Q : Value → Shared → Prop} (hu : A.in1.in1.units < cLine) (hl : s.heap.IsList l vs.toArray) (hz : vs.length ≤ sizeLine) (hp : ∀ v ∈ vs, IsKV prog w s.heap v (k v))
    (h : ∀ (h' : Heap) (d : Addr) (out : List Value), SrtO.Srtd (fun v u => lexKV (k v) (k u)) out → SrtO.Stb (fun v u => lexKV (k v) (k u)) out vs → (∀ b o, s.heap.get? b = some o → h'.get? b = some o) → s.heap.objs.size ≤ d → (∃ n, h'.get? d = some (seqObj "list" out.toArray n)) → Q (.ref d) { s with heap := h' }) :
    wpAny (model prog w) A (call (.builtin "sorted") [.ref l]) Q E s := by
  refine SrtO.sorted_ord (lexKV_swo k) hl hz (fun h2 h₁ a ha kk => ?_) fun out hs hb => ?_
  · refine kv_sortable (s := { s with heap := h₁ }) hu (by omega) (fun v hm => (hp v hm).keeps fun b o e _ => (kk b o e).2) fun o e => ?_
    have e' : some o = some (seqObj "list" vs.toArray 0) := e.symm.trans ha
    cases e'
    intro c
    exact absurd (Value.type.inj c) (by decide)
  · exact h _ _ out hs hb (fun b o e => sortedAll_old e) (Nat.le_succ _) (sortedAll_at s.heap vs out.toArray)
end
/-- sorted(xs): k tells each pair's numbers -/
def rSortedKV (K : PySem.W.Frag) : List V → Hp → VK → Prop := fun vs H Q => ∃ (a : Addr) (xs : List V) (k : V → List Int × Int), vs = [V.ref a] ∧ SqL K H a xs ∧ (∀ x ∈ xs, ∃ t q, x = V.ref t ∧ H t = some (.tup [.ref q, .int (k x).2]) ∧ H q = some (.tup ((k x).1.map V.int))) ∧
  ∀ ys p, SrtO.Srtd (fun x y => lexKV (k x) (k y)) ys → ys.Perm xs → H p = none → Q (.ref p) (upd H p (.lst ys))
section
variable {X : Cx}
theorem cr_sortedKV (hu : X.A.units + 64 < cLine) : CallR X (.builtin "sorted") (rSortedKV X.K) := by
  intro pins s σ H vs us Q I r h
  obtain ⟨a, xs, k, rfl, hs, hx, q⟩ := h
  obtain ⟨its, rv, hl, hz⟩ := I.list hs
  obtain ⟨u, rfl, ru⟩ := vals1 r
  obtain rfl : u = Value.ref a := ru
  obtain ⟨e1, e2⟩ := refs_back rv fun x m => by
    obtain ⟨t, _, e, _⟩ := hx x m
    exact ⟨t, e⟩
  refine sorted_kv (k := fun u => k (backV u)) (by show X.A.units + 1 + 1 < cLine; omega) hl.isList (by rw [← rv.length]; exact hz) (fun v hv => ?_) fun h' d out h1 h2 kp hd hn => ?_
  · obtain ⟨t, rfl⟩ := e2 v hv
    have hm : V.ref t ∈ xs := by rw [e1]; exact List.mem_map.mpr ⟨_, hv, rfl⟩
    obtain ⟨t', kq, e, ht, hq⟩ := hx _ hm
    cases e
    obtain ⟨_, its2, r2, o, ho, hc, n, hd⟩ := I.hok _ _ ht
    obtain ⟨u1, u2, rfl, ri, rj⟩ := vals2 r2
    obtain rfl : u1 = Value.ref kq := ri
    obtain ⟨t2, rfl⟩ := rj
    obtain ⟨_, its3, r3, o3, ho3, hc3, n3, hd3⟩ := I.hok _ _ hq
    refine ⟨t, o, kq, t2, n, rfl, ho, hc, hd, o3, _, n3, ho3, hc3, hd3, ?_⟩
    have key : ∀ {ks : List Int} {us : List Value}, Vals (ks.map V.int) us → ItemsAre (intKind X.prog X.w) ks us := by
      intro ks
      induction ks with
      | nil => intro us r; cases r; exact .nil
      | cons z ks ih =>
        intro us r
        cases r with
        | cons ra rb =>
          obtain ⟨tt, rfl⟩ := ra
          refine .cons ?_ (ih rb)
          show Value.isInt z (.int z tt) = true
          simp [Value.isInt]
    have r4 := key r3
    rw [List.toList_toArray]
    exact r4
  · have h3 : ∀ u ∈ out, ∃ a, u = Value.ref a := fun u hu => e2 u (h2.perm.mem_iff.mp hu)
    obtain ⟨n, hn⟩ := hn
    have hb : (out.map backV).Perm xs := by
      rw [e1]
      exact h2.perm.map backV
    refine ⟨.ref d, upd H d (.lst (out.map backV)), I.laid (t' := s.toks) kp hd ⟨?_, out, n, vals_back h3, hn⟩, rfl, q _ d (SrtO.srtd_map h1) hb (I.hok.fresh hd)⟩
    rw [hb.length_eq]
    exact hz
end
end El

set_option Elab.async false
set_option linter.all false
set_option maxRecDepth 100000
set_option maxHeartbeats 4000000
namespace El
open PySem PySem.Spec L2
variable [LawTabs]
section
variable {K : PySem.W.Frag} {σ : St} {F H F' H' : Hp} {ta tb tc td ty tv tx te tl : TE} {α β : Type} {R : Rp α} {S : Rp β} {x : α} {y z : β} {D : Ends} {ts : TS} {d l : Addr} {ks : List (List Nat × β)} {m : List Nat}
theorem tyV_dT {kvs : List (List Key × V)} (h : H d = some (.dT kvs)) : tyV K "dict" (.ref d) H := .inr (.inr (.inl ⟨rfl, .inr ⟨kvs, h⟩⟩))
theorem KvP.vals {F : Hp} : ∀ {kvs : List (List Key × V)} {ks : List (List Nat × β)}, KvP S F kvs ks → Paired (S F) (kvs.map (·.2)) (ks.map (·.2))
  | _, _, .nil => .nil
  | _, _, .cons h t => .cons h.2 (KvP.vals t)
/-- list(d.values()) -/
theorem ev_listVals (hd : Ev rRef td σ F H d) (h : DM S F H d ks) (mn : Mn S := by infer_instance) : Ev (rLst S) (tCB rListVals (tCons (tBM0 K "dict" rValuesT td) tNil)) σ F H (ks.map (·.2)) := fun F1 H1 g1 Q q =>
  hd F1 H1 g1 _ fun w F2 H2 g2 e => by
    obtain ⟨kvs, hk, p⟩ := h
    cases (show w = _ from e)
    have h2 := g2.hx _ _ (g1.hx _ _ hk)
    refine ⟨tyV_dT h2, d, kvs, rfl, rfl, h2, fun q1 hq => ⟨q1, d, kvs, rfl, upd_same, by rw [upd_ne (ne_of_none h2 hq)]; exact h2, fun l hl => ?_⟩⟩
    have g3 : Gr M0 F2 H2 F2 (upd H2 q1 (valsO q1 d)) := .loc g2.fh hq
    have g4 : Gr M0 F2 (upd H2 q1 (valsO q1 d)) (upd F2 l (.lst (kvs.map (·.2)))) (upd (upd H2 q1 (valsO q1 d)) l (.lst (kvs.map (·.2)))) := .new g3.fh hl
    exact q _ _ _ (g2.trans (g3.trans g4)) ⟨l, _, rfl, upd_same, Paired.up ((g1.ff.trans g2.ff).trans g4.ff) p.vals⟩
/-- list(d.items()) -/
theorem ev_listItems (hd : Ev rRef td σ F H d) (h : DM S F H d ks) (mn : Mn S := by infer_instance) : Ev (rLst (rPr (rTup rNat) S)) (tCB rListItems (tCons (tBM0 K "dict" DX.rItemsT td) tNil)) σ F H ks := fun F1 H1 g1 Q q =>
  hd F1 H1 g1 _ fun w F2 H2 g2 e => by
    obtain ⟨kvs, hk, p⟩ := h
    cases (show w = _ from e)
    have h2 := g2.hx _ _ (g1.hx _ _ hk)
    refine ⟨tyV_dT h2, d, kvs, rfl, rfl, h2, fun q1 hq => ⟨q1, d, kvs, rfl, upd_same, by rw [upd_ne (ne_of_none h2 hq)]; exact h2, fun H' l ts hx hl hL hts hp => ?_⟩⟩
    have g3 : Gr M0 F2 H2 F2 (upd H2 q1 (DX.itemsO q1 d)) := .loc g2.fh hq
    have g4 := Gr.ext g3.fh (fun b o h => hx b o h : Ext _ H')
    have fl : extF F2 (upd H2 q1 (DX.itemsO q1 d)) H' l = none := by
      have f2 : F2 l = none := g3.fh.free hl
      cases q : extF F2 (upd H2 q1 (DX.itemsO q1 d)) H' l with
      | none => rfl
      | some o =>
        unfold extF at q
        rw [f2, hl, hL] at q
        cases q
    have g34 := g3.trans g4
    have hl2 : H2 l = none := g3.free hl
    have g5 := g34.frz hL (g2.fh.free hl2) (.inl hl2) fl
    refine q _ _ _ (g2.trans g5) ⟨l, _, rfl, upd_same, ?_⟩
    have p2 := p.up ((g1.ff.trans g2.ff).trans g5.ff)
    refine paired_of (by rw [List.length_map, hts, p.len]) fun i a b ha hb => ?_
    rw [List.getElem?_map] at ha
    cases ht : ts[i]? with
    | none => rw [ht] at ha; cases ha
    | some t =>
      rw [ht] at ha
      cases ha
      obtain ⟨kv, hkv, rk, rv⟩ := Paired.get p2 hb
      obtain ⟨k, v⟩ := kv
      obtain ⟨qq, h1, h2'⟩ := hp i t k v ht hkv
      have f5 : ∀ {b : Addr} {xs : List V}, H' b = some (.tup xs) → (upd (extF F2 (upd H2 q1 (DX.itemsO q1 d)) H') l (.lst (ts.map V.ref))) b = some (.tup xs) := fun {b xs} hb => by
        have z : b ≠ l := fun z => by rw [z, hL] at hb; cases hb
        rw [upd_ne z]
        exact g4.fh.tt _ _ hb
      refine ⟨t, .ref qq, v, rfl, f5 h1, ky_rTup (f5 ?_), rv⟩
      rw [h2', show k = kyN b.1 from rk]
/-- sorted(list of pairs) -/
theorem e_sortedKV {xs : List (List Nat × Nat)} {Q : VK} (e : ExT F H) (h : Ev (rLst (rPr (rTup rNat) rNat)) te σ F H xs) (k : ∀ ys v F' H', ys.Perm xs → Gr M0 F H F' H' → rLst (rPr (rTup rNat) rNat) F' v ys → Q v H') : tCB (rSortedKV K) (tCons te tNil) σ H Q :=
  h F H (.refl e) _ fun v F1 H1 g1 ⟨a, vs, ea, hl, p⟩ => by
    -- the numbers of each pair, by its value
    have key : ∀ w ∈ vs, ∃ t q, ∃ p : List Nat × Nat, w = V.ref t ∧ F1 t = some (.tup [.ref q, .int (p.2 : Int)]) ∧ F1 q = some (.tup ((kyN p.1).map kV)) ∧ p ∈ xs := fun w hw => by
      obtain ⟨i, hi⟩ := List.mem_iff_getElem?.mp hw
      obtain ⟨x, hx, t, y, z, e1, e2, r1, r2⟩ := Paired.getL p hi
      obtain ⟨q, e3, e4⟩ := rTup_ky r1
      subst e3
      cases (show z = _ from r2)
      exact ⟨t, q, x, e1, e2, e4, List.mem_of_getElem? hx⟩
    let kf : V → List Nat × Nat := fun w => match w with
      | .ref t => (match F1 t with
        | some (.tup [.ref q, .int n]) => (match F1 q with
          | some (.tup us) => (us.map fun u => (match u with | .int i => i.toNat | _ => 0), n.toNat)
          | _ => ([], 0))
        | _ => ([], 0))
      | _ => ([], 0)
    have kfe : ∀ w x, rPr (rTup rNat) rNat F1 w x → kf w = x := fun w x r => by
      obtain ⟨t, y, z, e1, e2, r1, r2⟩ := r
      obtain ⟨q, e3, e4⟩ := rTup_ky r1
      subst e1 e3
      cases (show z = _ from r2)
      show (match F1 t with
        | some (.tup [.ref q, .int n]) => (match F1 q with
          | some (.tup us) => (us.map fun u => (match u with | .int i => i.toNat | _ => 0), n.toNat)
          | _ => ([], 0))
        | _ => ([], 0)) = x
      rw [e2]
      show (match F1 q with
          | some (.tup us) => (us.map fun u => (match u with | .int i => i.toNat | _ => 0), ((x.2 : Nat) : Int).toNat)
          | _ => ([], 0)) = x
      rw [e4, kyN_V]
      show ((x.1.map fun n : Nat => V.int (n : Int)).map (fun u => (match u with | .int i => i.toNat | _ => 0)), ((x.2 : Nat) : Int).toNat) = x
      rw [List.map_map]
      have : (x.1.map ((fun u => (match u with | .int i => i.toNat | _ => 0)) ∘ fun n : Nat => V.int (n : Int))) = x.1 := by
        have : ((fun u => (match u with | .int i => i.toNat | _ => 0)) ∘ fun n : Nat => V.int (n : Int)) = fun n : Nat => n := by
          funext n
          show ((n : Int)).toNat = n
          omega
        rw [this]
        exact List.map_id' _
      rw [this]
      exact Prod.ext rfl (by show ((x.2 : Nat) : Int).toNat = x.2; omega)
    refine ⟨a, vs, fun w => ((kf w).1.map fun n : Nat => (n : Int), ((kf w).2 : Int)), by rw [ea], SqL.of (g1.fh _ _ hl), fun w hw => ?_, fun ys D _ hperm hD => ?_⟩
    · obtain ⟨i, hi⟩ := List.mem_iff_getElem?.mp hw
      obtain ⟨x, hx, r⟩ := Paired.getL p hi
      have ek := kfe w x r
      obtain ⟨t, y, z, e1, e2, r1, r2⟩ := r
      obtain ⟨q, e3, e4⟩ := rTup_ky r1
      subst e3
      cases (show z = _ from r2)
      refine ⟨t, q, e1, ?_, ?_⟩
      · show H1 t = some (.tup [.ref q, .int ((kf w).2 : Int)])
        rw [ek]
        exact g1.fh _ _ e2
      · show H1 q = some (.tup (((kf w).1.map fun n : Nat => (n : Int)).map V.int))
        rw [ek, List.map_map]
        have := g1.fh _ _ e4
        rw [kyN_V] at this
        exact this
    · have g2 : Gr M0 F1 H1 (upd F1 D (.lst ys)) (upd H1 D (.lst ys)) := .new g1.fh hD
      have hxs : xs = vs.map kf := by
        have : ∀ {vs : List V} {xs : List (List Nat × Nat)}, Paired (rPr (rTup rNat) rNat F1) vs xs → xs = vs.map kf := by
          intro vs xs p
          induction p with
          | nil => rfl
          | cons r t ih => rw [List.map_cons, ← ih, kfe _ _ r]
        exact this p
      refine k (ys.map kf) _ _ _ (by rw [hxs]; exact hperm.map kf) (g1.trans g2) ⟨D, ys, rfl, upd_same, ?_⟩
      refine paired_of (by rw [List.length_map]) fun i w b hw hb => ?_
      rw [List.getElem?_map, hw] at hb
      cases hb
      obtain ⟨j, hj⟩ := List.mem_iff_getElem?.mp (hperm.mem_iff.mp (List.mem_of_getElem? hw))
      obtain ⟨x, hx, r⟩ := Paired.getL p hj
      show rPr (rTup rNat) rNat _ w (kf w)
      rw [kfe w x r]
      exact Mn.mono g2.ff r
end
end El

set_option Elab.async false
set_option linter.all false
set_option maxRecDepth 100000
set_option maxHeartbeats 4000000
namespace El
variable [LawTabs]
/-! ### what found_from finds, told plainly -/
structure AddS (m : Nat) (fs ys fs' : List (List Nat)) : Prop where
  pre : ∃ zs, fs' = fs ++ zs
  all : ∀ y ∈ ys, y ∈ fs'
  only : ∀ x ∈ fs', x ∈ fs ∨ x ∈ ys
  nd : fs.Nodup → fs'.Nodup
  len : fs.length ≤ m → fs'.length ≤ m
theorem addM_spec {m : Nat} : ∀ {ys fs fs' : List (List Nat)}, addM m fs ys = some fs' → AddS m fs ys fs'
  | [], fs, fs', h => by
    cases h
    exact ⟨⟨[], (List.append_nil _).symm⟩, (fun y h => nomatch h), fun x h => .inl h, id, id⟩
  | y :: ys, fs, fs', h => by
    by_cases hy : y ∈ fs
    · rw [addM_in hy] at h
      obtain ⟨⟨zs, hz⟩, h2, h3, h4, h5⟩ := addM_spec h
      refine ⟨⟨zs, hz⟩, fun x hx => ?_, fun x hx => (h3 x hx).imp id (List.mem_cons_of_mem _), h4, h5⟩
      rcases List.mem_cons.mp hx with rfl | hx
      · rw [hz]; exact List.mem_append_left _ hy
      · exact h2 x hx
    · by_cases hm : fs.length = m
      · rw [addM_full hy hm] at h
        cases h
      · rw [addM_new hy hm] at h
        obtain ⟨⟨zs, hz⟩, h2, h3, h4, h5⟩ := addM_spec h
        refine ⟨⟨[y] ++ zs, by rw [hz, List.append_assoc]⟩, fun x hx => ?_, fun x hx => ?_, fun hn => h4 ?_, fun hl => h5 ?_⟩
        · rcases List.mem_cons.mp hx with rfl | hx
          · rw [hz]; exact List.mem_append_left _ (List.mem_append_right _ (List.mem_singleton.mpr rfl))
          · exact h2 x hx
        · rcases h3 x hx with q | q
          · rcases List.mem_append.mp q with q | q
            · exact .inl q
            · exact .inr (by rw [List.mem_singleton.mp q]; exact List.mem_cons_self)
          · exact .inr (List.mem_cons_of_mem _ q)
        · exact List.nodup_append.mpr ⟨hn, List.pairwise_singleton _ _, fun a ha b hb e => hy (by rw [← List.mem_singleton.mp hb, ← e]; exact ha)⟩
        · rw [List.length_append]
          show fs.length + 1 ≤ m
          omega
/-- what steps lead to -/
inductive RchF (L : List Nat → List (List Nat)) (b : List Nat) : List Nat → Prop
  | here : RchF L b b
  | step {x y : List Nat} : RchF L b x → y ∈ L x → RchF L b y
structure FndS (L : List Nat → List (List Nat)) (m : Nat) (b : List Nat) (xs : List (List Nat)) : Prop where
  here : b ∈ xs
  hd : xs.head? = some b
  cl : ∀ x ∈ xs, ∀ y ∈ L x, y ∈ xs
  only : ∀ x ∈ xs, RchF L b x
  nd : xs.Nodup
  len : xs.length ≤ m
theorem loop_spec {L : List Nat → List (List Nat)} {m : Nat} {b : List Nat} : ∀ {n a : Nat} {fs xs : List (List Nat)}, foundLoop L m n a fs = some xs → n + a = m + 1 → fs.length ≤ m → fs.Nodup → (∀ x ∈ fs, RchF L b x) → fs.head? = some b →
    (∀ (i : Nat) x, i < a → fs[i]? = some x → ∀ y ∈ L x, y ∈ fs) → FndS L m b xs
  | 0, a, fs, xs, h, hn, hl, nd, hr, hd, hc => by
    cases h
    refine ⟨?_, hd, fun x hx y hy => ?_, hr, nd, hl⟩
    · cases fs with
      | nil => cases hd
      | cons z r => cases hd; exact List.mem_cons_self
    · obtain ⟨i, hi⟩ := List.mem_iff_getElem?.mp hx
      exact hc i x (by have := (List.getElem?_eq_some_iff.mp hi).1; omega) hi y hy
  | n + 1, a, fs, xs, h, hn, hl, nd, hr, hd, hc => by
    cases hx : fs[a]? with
    | none =>
      have hle : fs.length ≤ a := List.getElem?_eq_none_iff.mp hx
      rw [loop_end hle] at h
      cases h
      refine ⟨?_, hd, fun x hx y hy => ?_, hr, nd, hl⟩
      · cases fs with
        | nil => cases hd
        | cons z r => cases hd; exact List.mem_cons_self
      · obtain ⟨i, hi⟩ := List.mem_iff_getElem?.mp hx
        exact hc i x (by have := (List.getElem?_eq_some_iff.mp hi).1; omega) hi y hy
    | some x =>
      cases hA : addM m fs (L x) with
      | none => rw [loop_none hx hA] at h; cases h
      | some fs' =>
        rw [loop_some hx hA] at h
        obtain ⟨⟨zs, hz⟩, h2, h3, h4, h5⟩ := addM_spec hA
        have hxf : x ∈ fs := List.mem_of_getElem? hx
        refine loop_spec h (by omega) (h5 hl) (h4 nd) (fun y hy => ?_) ?_ fun i y hi hy z hz' => ?_
        · rcases h3 y hy with q | q
          · exact hr y q
          · exact .step (hr x hxf) q
        · rw [hz]
          cases fs with
          | nil => cases hd
          | cons z r => exact hd
        · have hal : a < fs.length := (List.getElem?_eq_some_iff.mp hx).1
          have hyf : fs[i]? = some y := by
            rw [hz, List.getElem?_append_left (by omega)] at hy
            exact hy
          by_cases e : i = a
          · subst e
            rw [hx] at hyf
            cases hyf
            exact h2 z hz'
          · rw [hz]
            exact List.mem_append_left _ (hc i y (by omega) hyf z hz')
theorem found_spec {L : List Nat → List (List Nat)} {m : Nat} {b : List Nat} {xs : List (List Nat)} (m1 : 1 ≤ m) (h : foundM L m b = some xs) : FndS L m b xs :=
  loop_spec h rfl m1 (List.pairwise_singleton _ _) (fun x hx => by rw [List.mem_singleton.mp hx]; exact .here) rfl fun i x hi => absurd hi (Nat.not_lt_zero i)
theorem FndS.iff {L : List Nat → List (List Nat)} {m : Nat} {b : List Nat} {xs : List (List Nat)} (h : FndS L m b xs) {x : List Nat} : x ∈ xs ↔ RchF L b x := by
  refine ⟨h.only x, fun r => ?_⟩
  induction r with
  | here => exact h.here
  | step _ hy ih => exact h.cl _ ih _ hy
/-- too many are refused only where there are too many -/
theorem loop_many {L : List Nat → List (List Nat)} {m : Nat} {b : List Nat} : ∀ {n a : Nat} {fs : List (List Nat)}, foundLoop L m n a fs = none → fs.length ≤ m → fs.Nodup → (∀ x ∈ fs, RchF L b x) → ∃ ys : List (List Nat), ys.Nodup ∧ (∀ y ∈ ys, RchF L b y) ∧ ys.length = m + 1
  | 0, _, _, h, _, _, _ => by cases h
  | n + 1, a, fs, h, hl, nd, hr => by
    cases hx : fs[a]? with
    | none =>
      rw [loop_end (List.getElem?_eq_none_iff.mp hx)] at h
      cases h
    | some x =>
      have hxf : x ∈ fs := List.mem_of_getElem? hx
      cases hA : addM m fs (L x) with
      | some fs' =>
        rw [loop_some hx hA] at h
        obtain ⟨_, _, h3, h4, h5⟩ := addM_spec hA
        exact loop_many h (h5 hl) (h4 nd) fun y hy => (h3 y hy).elim (hr y) (.step (hr x hxf))
      | none =>
        have hrx : RchF L b x := hr x hxf
        have key : ∀ (ys fs : List (List Nat)), (∀ y ∈ ys, y ∈ L x) → addM m fs ys = none → fs.length ≤ m → fs.Nodup → (∀ x ∈ fs, RchF L b x) → ∃ ys : List (List Nat), ys.Nodup ∧ (∀ y ∈ ys, RchF L b y) ∧ ys.length = m + 1 := by
          intro ys
          induction ys with
          | nil => intro fs _ h; cases h
          | cons y ys ih =>
            intro fs hs h hl nd hr
            have ry : RchF L b y := .step hrx (hs y List.mem_cons_self)
            by_cases hy : y ∈ fs
            · rw [addM_in hy] at h
              exact ih fs (fun z hz => hs z (List.mem_cons_of_mem _ hz)) h hl nd hr
            · have nd' : (fs ++ [y]).Nodup := List.nodup_append.mpr ⟨nd, List.pairwise_singleton _ _, fun a ha b hb e => hy (by rw [← List.mem_singleton.mp hb, ← e]; exact ha)⟩
              have hr' : ∀ z ∈ fs ++ [y], RchF L b z := fun z hz => by
                rcases List.mem_append.mp hz with q | q
                · exact hr z q
                · rw [List.mem_singleton.mp q]; exact ry
              by_cases hm : fs.length = m
              · exact ⟨fs ++ [y], nd', hr', by rw [List.length_append, hm]; rfl⟩
              · rw [addM_new hy hm] at h
                exact ih _ (fun z hz => hs z (List.mem_cons_of_mem _ hz)) h (by rw [List.length_append]; show fs.length + 1 ≤ m; omega) nd' hr'
        exact key (L x) fs (fun y hy => hy) hA hl nd hr
end El

set_option Elab.async false
set_option linter.all false
set_option maxRecDepth 100000
set_option maxHeartbeats 4000000
namespace El
open PySem PySem.Spec L2
variable [LawTabs]
theorem Gr.back {F H F' H' : Hp} {d : Addr} {o : HO} (g : Gr (M1 d) F H F' H') (h : H d = some o) (fd : F' d = none) (nt : ∀ ps, o ≠ .tbl ps := by intro _ z; cases z) (no : ∀ xs, o ≠ .tup xs := by intro _ z; cases z) : Gr M0 F H F' (upd H' d o) where
  ff := g.ff
  fh := g.fh.mut fd (notab_of g.t0 h nt) no
  hh0 := fun b u _ t hb => by
    by_cases z : b = d
    · subst z; rw [upd_same, ← h, hb]
    · rw [upd_ne z]; exact g.hh0 b u z t hb
  nw := fun b _ hb n => by
    by_cases z : b = d
    · subst z; exact fd
    · exact g.nw b z hb n
  dm := fun b hb => by
    by_cases z : b = d
    · subst z; rw [upd_same]; exact fun x => nomatch x
    · rw [upd_ne z]; exact g.dm b hb
  t0 := g.t0
theorem Gr.of1 {F H F' H' : Hp} {d : Addr} (g : Gr (M1 d) F H F' H') (b : Addr) {o : HO} (hne : b ≠ d) (h : H b = some o) (n : ∀ ps, o ≠ .tbl ps := by intro _ z; cases z) : H' b = some o := g.hh b o hne h n
theorem Gr.nw1 {F H F' H' : Hp} {d b : Addr} {o : HO} (g : Gr (M1 d) F H F' H') (hne : b ≠ d) (h : H b = some o) (n : F b = none) : F' b = none := g.nw b hne (by rw [h]; exact fun z => nomatch z) n
/-! ### counts -/
def addK (acc : List (List Nat × Nat)) (to : List Nat) (n : Nat) : List (List Nat × Nat) := putM acc to ((lookM acc to).getD 0 + n)
def toK (e : Bool) (s m : List Nat) : List Nat := if e = true then thenM s m else thenM m s
def goneM (t : Tn) (ks : List (List Nat × Nat)) (e : Bool) : List (List Nat × Nat) := ks.foldl (fun acc p => t.maps.foldl (fun acc s => addK acc (toK e s p.1) p.2) acc) []
def restM (ks : List (List Nat × Nat)) : List (List Nat × Nat) := ks.foldl (fun acc p => if metB p.1 = true then acc else putM acc p.1 p.2) []
def addAt (fs : List Nat) (i n : Nat) : List Nat := fs.set i (fs.getD i 0 + n)
def partM (ks : List (List Nat × Nat)) (fs : List Nat) : List Nat := ks.foldl (fun fs p => if metB p.1 = true then addAt fs (p.1.headD 0) p.2 else fs) fs
theorem addAt_len {fs : List Nat} {i n : Nat} : (addAt fs i n).length = fs.length := List.length_set
theorem partM_len : ∀ {ks : List (List Nat × Nat)} {fs : List Nat}, (partM ks fs).length = fs.length
  | [], _ => rfl
  | p :: ks, fs => by
    show (partM ks (if metB p.1 = true then addAt fs (p.1.headD 0) p.2 else fs)).length = _
    rw [partM_len]
    split
    · exact addAt_len
    · rfl
/-- the keys of what has gone on -/
theorem add_keys {acc : List (List Nat × Nat)} {to : List Nat} {n : Nat} {x : List Nat} : x ∈ (addK acc to n).map (·.1) ↔ x ∈ acc.map (·.1) ∨ x = to := by
  unfold addK
  rw [put_keys]
  split
  · rename_i h
    exact ⟨.inl, fun q => q.elim id fun e => e ▸ h⟩
  · rw [List.mem_append, List.mem_singleton]
theorem add_nd {acc : List (List Nat × Nat)} {to : List Nat} {n : Nat} (h : (acc.map (·.1)).Nodup) : ((addK acc to n).map (·.1)).Nodup := put_nodup h
theorem add_len {acc : List (List Nat × Nat)} {to : List Nat} {n : Nat} : (addK acc to n).length ≤ acc.length + 1 := put_len
theorem fold_add_keys {e : Bool} {p : List Nat × Nat} {x : List Nat} : ∀ {ss : List (List Nat)} {acc : List (List Nat × Nat)}, x ∈ (ss.foldl (fun acc s => addK acc (toK e s p.1) p.2) acc).map (·.1) → x ∈ acc.map (·.1) ∨ ∃ s ∈ ss, x = toK e s p.1
  | [], _, h => .inl h
  | s :: ss, acc, h => by
    rcases fold_add_keys (ss := ss) h with q | ⟨s', hs, rfl⟩
    · rcases add_keys.mp q with q | q
      · exact .inl q
      · exact .inr ⟨s, List.mem_cons_self, q⟩
    · exact .inr ⟨s', List.mem_cons_of_mem _ hs, rfl⟩
theorem fold_add_nd {e : Bool} {p : List Nat × Nat} : ∀ {ss : List (List Nat)} {acc : List (List Nat × Nat)}, (acc.map (·.1)).Nodup → ((ss.foldl (fun acc s => addK acc (toK e s p.1) p.2) acc).map (·.1)).Nodup
  | [], _, h => h
  | s :: ss, acc, h => fold_add_nd (ss := ss) (add_nd h)
theorem gone_keys {t : Tn} {e : Bool} {x : List Nat} : ∀ {ks acc : List (List Nat × Nat)}, x ∈ (ks.foldl (fun acc p => t.maps.foldl (fun acc s => addK acc (toK e s p.1) p.2) acc) acc).map (·.1) → x ∈ acc.map (·.1) ∨ ∃ p ∈ ks, ∃ s ∈ t.maps, x = toK e s p.1
  | [], _, h => .inl h
  | p :: ks, acc, h => by
    rcases gone_keys (ks := ks) h with q | ⟨p', hp, s, hs, rfl⟩
    · rcases fold_add_keys q with q | ⟨s, hs, q⟩
      · exact .inl q
      · exact .inr ⟨p, List.mem_cons_self, s, hs, q⟩
    · exact .inr ⟨p', List.mem_cons_of_mem _ hp, s, hs, rfl⟩
theorem gone_nd {t : Tn} {e : Bool} : ∀ {ks acc : List (List Nat × Nat)}, (acc.map (·.1)).Nodup → ((ks.foldl (fun acc p => t.maps.foldl (fun acc s => addK acc (toK e s p.1) p.2) acc) acc).map (·.1)).Nodup
  | [], _, h => h
  | p :: ks, acc, h => gone_nd (ks := ks) (fold_add_nd h)
theorem nd_len {xs ys : List (List Nat)} (h : xs.Nodup) (s : ∀ x ∈ xs, x ∈ ys) : xs.length ≤ ys.length := by
  induction xs generalizing ys with
  | nil => exact Nat.zero_le _
  | cons a xs ih =>
    obtain ⟨h1, h2⟩ := List.nodup_cons.mp h
    have ha := s a List.mem_cons_self
    have := ih (ys := ys.erase a) h2 fun x hx => (List.mem_erase_of_ne (fun e : x = a => h1 (by rw [← e]; exact hx))).mpr (s x (List.mem_cons_of_mem _ hx))
    rw [List.length_erase_of_mem ha] at this
    have : 0 < ys.length := List.length_pos_of_mem ha
    rw [List.length_cons]
    omega
/-- maps that stay among xs -/
structure KIn (xs : List (List Nat)) (ks : List (List Nat × Nat)) : Prop where
  nd : (ks.map (·.1)).Nodup
  sub : ∀ p ∈ ks, p.1 ∈ xs
theorem KIn.len {xs : List (List Nat)} {ks : List (List Nat × Nat)} (h : KIn xs ks) : ks.length ≤ xs.length := by
  have := nd_len h.nd (ys := xs) fun x hx => by obtain ⟨p, hp, rfl⟩ := List.mem_map.mp hx; exact h.sub p hp
  rwa [List.length_map] at this
theorem KIn.gone {t : Tn} {e : Bool} {xs : List (List Nat)} {ks : List (List Nat × Nat)} (h : KIn xs ks) (cl : ∀ x ∈ xs, ∀ s ∈ t.maps, toK e s x ∈ xs) : KIn xs (goneM t ks e) := by
  refine ⟨gone_nd (ks := ks) List.nodup_nil, fun p hp => ?_⟩
  rcases gone_keys (ks := ks) (List.mem_map.mpr ⟨p, hp, rfl⟩) with q | ⟨p', hp', s, hs, e'⟩
  · cases q
  · rw [e']
    exact cl _ (h.sub p' hp') s hs
theorem rest_keys {x : List Nat} : ∀ {ks acc : List (List Nat × Nat)}, x ∈ (ks.foldl (fun acc p => if metB p.1 = true then acc else putM acc p.1 p.2) acc).map (·.1) → x ∈ acc.map (·.1) ∨ ∃ p ∈ ks, x = p.1
  | [], _, h => .inl h
  | p :: ks, acc, h => by
    have h : x ∈ (ks.foldl (fun acc p => if metB p.1 = true then acc else putM acc p.1 p.2) (if metB p.1 = true then acc else putM acc p.1 p.2)).map (·.1) := h
    rcases rest_keys (ks := ks) h with q | ⟨p', hp, q⟩
    · split at q
      · exact .inl q
      · rw [put_keys] at q
        split at q
        · exact .inl q
        · rcases List.mem_append.mp q with q | q
          · exact .inl q
          · exact .inr ⟨p, List.mem_cons_self, List.mem_singleton.mp q⟩
    · exact .inr ⟨p', List.mem_cons_of_mem _ hp, q⟩
theorem rest_nd : ∀ {ks acc : List (List Nat × Nat)}, (acc.map (·.1)).Nodup → ((ks.foldl (fun acc p => if metB p.1 = true then acc else putM acc p.1 p.2) acc).map (·.1)).Nodup
  | [], _, h => h
  | p :: ks, acc, h => by
    show ((ks.foldl _ (if metB p.1 = true then acc else putM acc p.1 p.2)).map (·.1)).Nodup
    refine rest_nd (ks := ks) ?_
    split
    · exact h
    · exact put_nodup h
theorem KIn.rest {xs : List (List Nat)} {ks : List (List Nat × Nat)} (h : KIn xs ks) : KIn xs (restM ks) := by
  refine ⟨rest_nd (ks := ks) List.nodup_nil, fun p hp => ?_⟩
  rcases rest_keys (ks := ks) (List.mem_map.mpr ⟨p, hp, rfl⟩) with q | ⟨p', hp', e'⟩
  · cases q
  · rw [e']
    exact h.sub p' hp'
/-! ### the maps of words -/
theorem mapW_snoc {t : Tn} {w : List Nat} {s : Nat} : mapW t (w ++ [s]) = thenM (mapW t w) (t.maps.getD s []) := by
  unfold mapW mapFrom
  rw [List.foldl_append]
  rfl
abbrev stepsM (t : Tn) : List Nat → List (List Nat) := fun m => t.maps.map fun s => thenM m s
theorem rch_word {t : Tn} {m : List Nat} : RchF (stepsM t) (idMap t.many) m ↔ ∃ w : List Nat, (∀ s ∈ w, s < t.maps.length) ∧ m = mapW t w := by
  constructor
  · intro r
    induction r with
    | here => exact ⟨[], (fun s h => nomatch h), rfl⟩
    | step _ hy ih =>
      obtain ⟨w, hw, rfl⟩ := ih
      obtain ⟨s, hs, rfl⟩ := List.mem_map.mp hy
      obtain ⟨i, hi⟩ := List.mem_iff_getElem?.mp hs
      have hil := (List.getElem?_eq_some_iff.mp hi).1
      refine ⟨w ++ [i], fun z hz => ?_, ?_⟩
      · rcases List.mem_append.mp hz with q | q
        · exact hw z q
        · rw [List.mem_singleton.mp q]; exact hil
      · rw [mapW_snoc, List.getD_eq_getElem?_getD, hi]
        rfl
  · rintro ⟨w, hw, rfl⟩
    have : ∀ (n : Nat) (w : List Nat), w.length = n → (∀ s ∈ w, s < t.maps.length) → RchF (stepsM t) (idMap t.many) (mapW t w) := by
      intro n
      induction n with
      | zero =>
        intro w hl _
        rw [List.length_eq_zero_iff.mp hl]
        exact .here
      | succ n ih =>
        intro w hl hw
        rcases List.eq_nil_or_concat w with z | ⟨w', s, z⟩
        · rw [z] at hl; cases hl
        rw [List.concat_eq_append] at z
        subst z
        rw [mapW_snoc]
        have hs := hw s (List.mem_append_right _ (List.mem_singleton.mpr rfl))
        refine .step (ih w' (by rw [List.length_append] at hl; simpa using hl) fun z hz => hw z (List.mem_append_left _ hz)) (List.mem_map.mpr ⟨_, ?_, rfl⟩)
        rw [List.getD_eq_getElem?_getD, List.getElem?_eq_getElem hs]
        exact List.getElem_mem hs
    exact this _ w rfl hw
/-- the maps that are found -/
structure MapsS (t : Tn) (xs : List (List Nat)) : Prop where
  iff : ∀ m, m ∈ xs ↔ ∃ w : List Nat, (∀ s ∈ w, s < t.maps.length) ∧ m = mapW t w
  nd : xs.Nodup
  len : xs.length ≤ 300
  hd : xs.head? = some (idMap t.many)
theorem maps_spec {t : Tn} {xs : List (List Nat)} (h : mapsM t = some xs) : MapsS t xs := by
  have f := found_spec (by decide) h
  exact ⟨fun m => f.iff.trans rch_word, f.nd, f.len, f.hd⟩
theorem MapsS.isMap {t : Tn} {xs : List (List Nat)} (h : MapsS t xs) {m : List Nat} (hm : m ∈ xs) : IsMap t.many m := by
  obtain ⟨w, hw, rfl⟩ := (h.iff m).mp hm
  exact isMap_mapW hw
theorem MapsS.id {t : Tn} {xs : List (List Nat)} (h : MapsS t xs) : idMap t.many ∈ xs := (h.iff _).mpr ⟨[], (fun s h => nomatch h), rfl⟩
theorem MapsS.cl {t : Tn} {xs : List (List Nat)} (h : MapsS t xs) (e : Bool) : ∀ x ∈ xs, ∀ s ∈ t.maps, toK e s x ∈ xs := fun x hx s hs => by
  obtain ⟨w, hw, rfl⟩ := (h.iff x).mp hx
  obtain ⟨i, hi⟩ := List.mem_iff_getElem?.mp hs
  have hil := (List.getElem?_eq_some_iff.mp hi).1
  have es : t.maps.getD i [] = s := by rw [List.getD_eq_getElem?_getD, hi]; rfl
  unfold toK
  split
  · refine (h.iff _).mpr ⟨i :: w, fun z hz => ?_, ?_⟩
    · rcases List.mem_cons.mp hz with rfl | hz
      · exact hil
      · exact hw z hz
    · rw [mapW_cons hil hw, es]
  · refine (h.iff _).mpr ⟨w ++ [i], fun z hz => ?_, ?_⟩
    · rcases List.mem_append.mp hz with q | q
      · exact hw z q
      · rw [List.mem_singleton.mp q]; exact hil
    · rw [mapW_snoc, es]
/-! ### promises -/
def SpGone (C : Addr) : Sp := fun vs H Q _ => ∃ (F : Hp) (tv : V) (t : Tn) (d : Addr) (ks : List (List Nat × Nat)) (b : Bool), vs = [tv, .ref d, .bl b] ∧ ExT F H ∧ rTurns C F tv t ∧ F d = none ∧ DM rNat F H d ks ∧ (∀ p ∈ ks, IsMap t.many p.1) ∧ ks.length ≤ 300 ∧
  ∀ r F' H', Gr M0 F H F' H' → H r = none → F' r = none → DM rNat F' H' r (goneM t ks b) → Q (.ref r) H'
instance {C : Addr} : SpLen (SpGone C) 3 := ⟨fun ⟨_, _, _, _, _, _, h, _⟩ => by rw [h]; rfl⟩
def SpParted (C : Addr) : Sp := fun vs H Q _ => ∃ (F : Hp) (tv : V) (t : Tn) (d l : Addr) (ks : List (List Nat × Nat)) (fs : List Nat), vs = [tv, .ref d, .ref l] ∧ ExT F H ∧ rTurns C F tv t ∧ F d = none ∧ DM rNat F H d ks ∧ (∀ p ∈ ks, IsMap t.many p.1) ∧ ks.length ≤ 300 ∧
  F l = none ∧ H l = some (.lst (fs.map fun n : Nat => V.int (n : Int))) ∧ fs.length = t.many ∧
  ∀ r F' H', Gr (M1 l) F H F' H' → H r = none → F' r = none → DM rNat F' H' r (restM ks) → F' l = none → H' l = some (.lst ((partM ks fs).map fun n : Nat => V.int (n : Int))) → Q (.ref r) H'
instance {C : Addr} : SpLen (SpParted C) 3 := ⟨fun ⟨_, _, _, _, _, _, _, h, _⟩ => by rw [h]; rfl⟩
/-- of as many more signs -/
def mcM (t : Tn) : Nat → List (List Nat × Nat)
  | 0 => [(idMap t.many, 1)]
  | n + 1 => goneM t (mcM t n) false
theorem mc_in {t : Tn} {xs : List (List Nat)} (h : MapsS t xs) : ∀ n, KIn xs (mcM t n)
  | 0 => ⟨List.pairwise_singleton _ _, fun p hp => by rw [List.mem_singleton.mp hp]; exact h.id⟩
  | n + 1 => (mc_in h n).gone (h.cl false)
def SpMapCounts (C CM : Addr) : Sp := fun vs H Q E => ∃ (F : Hp) (v : V) (t : Tn) (n : Nat), vs = [v, .int (n : Int)] ∧ ExT F H ∧ rTurns C F v t ∧ n ≤ 1000 ∧
  (∀ xs, mapsM t = some xs → ∀ ys, ys.Perm (mcM t n) → ∀ w F' H', Gr M0 F H F' H' → rLst (rPr (rTup rNat) rNat) F' w ys → Q w H') ∧ (mapsM t = none → ∀ F' H', Gr M0 F H F' H' → E (.ref CM) none H')
instance {C CM : Addr} : SpLen (SpMapCounts C CM) 2 := ⟨fun ⟨_, _, _, _, h, _⟩ => by rw [h]; rfl⟩
/-- found and rest behind so many signs -/
def cntS (t : Tn) : Nat → List Nat × List (List Nat × Nat)
  | 0 => (partM [(idMap t.many, 1)] (List.replicate t.many 0), restM [(idMap t.many, 1)])
  | n + 1 => (partM (goneM t (cntS t n).2 true) ((cntS t n).1.map fun x => x * t.maps.length), restM (goneM t (cntS t n).2 true))
theorem cnt_in {t : Tn} {xs : List (List Nat)} (h : MapsS t xs) : ∀ n, KIn xs (cntS t n).2
  | 0 => KIn.rest ⟨List.pairwise_singleton _ _, fun p hp => by rw [List.mem_singleton.mp hp]; exact h.id⟩
  | n + 1 => ((cnt_in h n).gone (h.cl true)).rest
theorem cnt_len {t : Tn} : ∀ n, (cntS t n).1.length = t.many
  | 0 => by show (partM _ _).length = _; rw [partM_len, List.length_replicate]
  | n + 1 => by show (partM _ _).length = _; rw [partM_len, List.length_map, cnt_len n]
def countsM (t : Tn) (n : Nat) : Option (List Nat × Nat) := match mapsM t with
  | none => none
  | some _ => some ((cntS t n).1, ((cntS t n).2.map (·.2)).sum)
theorem countsM_some {t : Tn} {n : Nat} {xs : List (List Nat)} (h : mapsM t = some xs) : countsM t n = some ((cntS t n).1, ((cntS t n).2.map (·.2)).sum) := by
  unfold countsM
  rw [h]
theorem countsM_none {t : Tn} {n : Nat} (h : mapsM t = none) : countsM t n = none := by
  unfold countsM
  rw [h]
section
variable {K : PySem.W.Frag} {σ : St} {F H F' H' : Hp} {ta tb tc td te tl : TE} {α β : Type} {R : Rp α} {S : Rp β} {D : Ends} {d l : Addr} {ks : List (List Nat × Nat)} {t : Tn} {C : Addr}
/-- x = {} -/
theorem x_dictT {i : Nat} (k : ∀ p, H p = none → D.nx (σ.set i (some (.ref p))) (upd H p (.dT []))) : tAsg tDNewT (gName i) D σ H := fun p hp => k p hp
/-- x = gone_on(..) -/
theorem e_gone {b : Bool} {E : XK} {Q : VK} (e : ExT F H) (ha : Ev (rTurns C) ta σ F H t) (hd : Ev rRef td σ F H d) (hb : Ev rBl tb σ F H b) (fd : F d = none) (h : DM rNat F H d ks) (hm : ∀ p ∈ ks, IsMap t.many p.1) (hl : ks.length ≤ 300)
    (k : ∀ r F' H', Gr M0 F H F' H' → H r = none → F' r = none → DM rNat F' H' r (goneM t ks b) → Q (.ref r) H') : tCall (SpGone C) [] E (tCons ta (tCons td (tCons tb tNil))) σ H Q :=
  ha F H (.refl e) _ fun v F1 H1 g1 r1 => hd F1 H1 g1 _ fun w F2 H2 g2 r2 => hb F2 H2 (g1.trans g2) _ fun u F3 H3 g3 r3 => by
    cases (show w = _ from r2)
    cases (show u = _ from r3)
    have G := g1.trans (g2.trans g3)
    obtain ⟨kvs, hk, p⟩ := h
    exact ⟨F3, v, t, d, ks, b, rfl, g3.fh, Mn.mono (g2.ff.trans g3.ff) r1, G.nn hk fd, DM.gr ⟨kvs, hk, p⟩ G, hm, hl, fun r F' H' g hr fr m => k r F' H' (G.trans g) (G.free hr) fr m⟩
/-- [elt for x in list], the new list may change -/
theorem x_lcLM {n q : Nat} {ws : List Nat} {xs : List α} {zs : List β} (e : ExT F H) (h : Ev (rLst R) tl σ F H xs) (hlen : zs.length = xs.length) (hz : xs.length ≤ 1000000) (hw : ∀ v, wipe ((wipe σ ws).set n (some v)) ws = wipe σ ws)
    (he : ∀ (i : Nat) x y v F1 H1, xs[i]? = some x → zs[i]? = some y → Gr M0 F H F1 H1 → R F1 v x → Ev S te ((wipe σ ws).set n (some v)) F1 H1 y)
    (k : ∀ l us F' H', Gr M0 F H F' H' → H l = none → F' l = none → H' l = some (.lst us) → Paired (S F') us zs → D.nx (σ.set q (some (.ref l))) H') (m : Mn R := by infer_instance) (m' : Mn S := by infer_instance) : tAsg (tLc (iList K tl) (gName n) tYes te ws) (gName q) D σ H := by
  refine h F H (.refl e) _ fun v F2 H2 g2 ⟨a, vs, ea, hl, p⟩ => ⟨a, ea, ⟨vs, SqL.of (g2.fh _ _ hl)⟩, fun B hD => ?_⟩
  refine lc_list (xs := vs) (fun i H' => ∃ F' us, Gr M0 F2 H2 F' H' ∧ F' B = none ∧ H' B = some (.lst us) ∧ Paired (S F') us (zs.take i)) ⟨F2, [], .loc g2.fh hD, g2.fh.free hD, upd_same, .nil⟩ (fun i H' _ ⟨F', us, g, _⟩ => SqL.of (g.fh _ _ (g.ff _ _ hl))) ?_ ?_
  · rintro i w H' hi ⟨F', us, g, fD, hD', pu⟩
    obtain ⟨x, hx, rx⟩ := Paired.getL p hi
    have hil : i < zs.length := by rw [hlen]; exact (List.getElem?_eq_some_iff.mp hx).1
    have hy : zs[i]? = some zs[i] := List.getElem?_eq_getElem hil
    refine ⟨hw w, ?_⟩
    refine he i x zs[i] w F' H' hx hy (g2.trans g) (m.mono g.ff rx) F' H' (.refl g.fh) _ fun u F3 H3 g3 r3 => ?_
    refine ⟨us, g3.hx _ _ hD', ?_, F3, us ++ [u], (g.trans g3).set' (g3.nn hD' fD) (.inl hD), g3.nn hD' fD, upd_same, ?_⟩
    · rw [pu.length, List.length_take, sizeLine_eq]
      omega
    · rw [List.take_add_one, hy]
      exact (Paired.up g3.ff pu).snoc r3
  · rintro H' ⟨F', us, g, fD, hD', pu⟩
    rw [p.length, ← hlen, List.take_length] at pu
    exact k B us F' H' (g2.trans g) (g2.free hD) fD hD' pu
end
end El

set_option Elab.async false
set_option linter.all false
set_option maxRecDepth 100000
set_option maxHeartbeats 4000000
namespace El
open PySem PySem.Spec L2
variable [LawTabs]
/-- two things that may change -/
abbrev M2 (d l : Addr) : Addr → Prop := fun b => b = d ∨ b = l
theorem M1.l {d l : Addr} : ∀ b, M1 d b → M2 d l b := fun _ h => .inl h
theorem M1.r {d l : Addr} : ∀ b, M1 l b → M2 d l b := fun _ h => .inr h
theorem Gr.back2 {F H F' H' : Hp} {d l : Addr} {o : HO} (g : Gr (M2 d l) F H F' H') (h : H d = some o) (fd : F' d = none) (nt : ∀ ps, o ≠ .tbl ps := by intro _ z; cases z) (no : ∀ xs, o ≠ .tup xs := by intro _ z; cases z) : Gr (M1 l) F H F' (upd H' d o) where
  ff := g.ff
  fh := g.fh.mut fd (notab_of g.t0 h nt) no
  hh0 := fun b u m t hb => by
    by_cases z : b = d
    · subst z; rw [upd_same, ← h, hb]
    · rw [upd_ne z]; exact g.hh0 b u (fun q => q.elim z m) t hb
  nw := fun b m hb n => by
    by_cases z : b = d
    · subst z; exact fd
    · exact g.nw b (fun q => q.elim z m) hb n
  dm := fun b hb => by
    by_cases z : b = d
    · subst z; rw [upd_same]; exact fun x => nomatch x
    · rw [upd_ne z]; exact g.dm b hb
  t0 := g.t0
theorem fold_len {t : Tn} {e : Bool} {p : List Nat × Nat} : ∀ {ss : List (List Nat)} {acc : List (List Nat × Nat)}, (ss.foldl (fun acc s => addK acc (toK e s p.1) p.2) acc).length ≤ acc.length + ss.length
  | [], _ => Nat.le_refl _
  | s :: ss, acc => by
    have h1 := fold_len (t := t) (e := e) (p := p) (ss := ss) (acc := addK acc (toK e s p.1) p.2)
    have h2 := add_len (acc := acc) (to := toK e s p.1) (n := p.2)
    rw [List.length_cons]
    show (ss.foldl _ (addK acc (toK e s p.1) p.2)).length ≤ _
    omega
theorem gone_len {t : Tn} {e : Bool} : ∀ {ks acc : List (List Nat × Nat)}, (ks.foldl (fun acc p => t.maps.foldl (fun acc s => addK acc (toK e s p.1) p.2) acc) acc).length ≤ acc.length + ks.length * t.maps.length
  | [], _ => by rw [List.length_nil, Nat.zero_mul]; exact Nat.le_refl _
  | p :: ks, acc => by
    have h1 := gone_len (t := t) (e := e) (ks := ks) (acc := t.maps.foldl (fun acc s => addK acc (toK e s p.1) p.2) acc)
    have h2 := fold_len (t := t) (e := e) (p := p) (ss := t.maps) (acc := acc)
    rw [List.length_cons, Nat.succ_mul]
    show (ks.foldl _ (t.maps.foldl (fun acc s => addK acc (toK e s p.1) p.2) acc)).length ≤ _
    omega
theorem foldl_take {α β : Type} (f : β → α → β) (b : β) {xs : List α} {i : Nat} {x : α} (h : xs[i]? = some x) : (xs.take (i + 1)).foldl f b = f ((xs.take i).foldl f b) x := by
  rw [List.take_add_one, h, List.foldl_append]
  rfl
theorem restM_len {ks : List (List Nat × Nat)} : (restM ks).length ≤ ks.length := by
  have : ∀ (ks acc : List (List Nat × Nat)), (ks.foldl (fun acc p => if metB p.1 = true then acc else putM acc p.1 p.2) acc).length ≤ acc.length + ks.length := by
    intro ks
    induction ks with
    | nil => exact fun acc => Nat.le_refl _
    | cons p ks ih =>
      intro acc
      have h1 := ih (if metB p.1 = true then acc else putM acc p.1 p.2)
      have h2 : (if metB p.1 = true then acc else putM acc p.1 p.2).length ≤ acc.length + 1 := by
        split
        · omega
        · exact put_len
      rw [List.length_cons]
      show (ks.foldl _ (if metB p.1 = true then acc else putM acc p.1 p.2)).length ≤ _
      omega
  have := this ks []
  rw [List.length_nil, Nat.zero_add] at this
  exact this
theorem addAt_map {fs : List Nat} {i n : Nat} : (fs.map fun x : Nat => V.int (x : Int)).set i (.int ((fs.getD i 0 : Nat) + (n : Int))) = (addAt fs i n).map fun x : Nat => V.int (x : Int) := by
  unfold addAt
  rw [List.map_set]
  congr 2
section
variable {K : PySem.W.Frag} {σ : St} {F H F' H' : Hp} {ta tb tc td te tl : TE} {α β : Type} {R : Rp α} {S : Rp β} {D : Ends} {d l : Addr} {ks : List (List Nat × Nat)} {t : Tn} {C CM : Addr}
theorem ev_nsumL {ns : List Nat} (h : Ev (rLst rNat) ta σ F H ns) : Ev rInt (tCB (rSum K) (tCons ta tNil)) σ F H (ns.sum : Int) := Ev.is (ev_sum h.ints) (by
  clear h
  induction ns with
  | nil => rfl
  | cons a l ih => rw [List.map_cons, List.sum_cons, List.sum_cons, ih]; omega)
/-- gives a dict of its own, which may change -/
def EvD (te : TE) (σ : St) (F H : Hp) (ks : List (List Nat × Nat)) : Prop := ∀ F1 H1, Gr M0 F H F1 H1 → ∀ Q : VK, (∀ p F2 H2, Gr M0 F1 H1 F2 H2 → H1 p = none → F2 p = none → DM rNat F2 H2 p ks → Q (.ref p) H2) → te σ H1 Q
theorem evD_disp {m : List Nat} {n : Nat} (hk : Ev (rTup rNat) ta σ F H m) (hv : Ev rNat tb σ F H n) : EvD (tDisp1T ta tb) σ F H [(m, n)] := fun F1 H1 g1 Q q =>
  e_disp1T g1.fh (hk.mono g1) (hv.mono g1) fun p v F2 H2 g2 h0 f2 h2 r => q p F2 H2 g2 h0 f2 ⟨_, h2, .cons ⟨rfl, r⟩ .nil⟩
theorem evD_gone {b : Bool} {E : XK} (ha : Ev (rTurns C) ta σ F H t) (hd : Ev rRef td σ F H d) (hb : Ev rBl tb σ F H b) (fd : F d = none) (h : DM rNat F H d ks) (hm : ∀ p ∈ ks, IsMap t.many p.1) (hl : ks.length ≤ 300) : EvD (tCall (SpGone C) [] E (tCons ta (tCons td (tCons tb tNil)))) σ F H (goneM t ks b) := fun F1 H1 g1 Q q => by
  obtain ⟨kvs, hk, p⟩ := h
  exact e_gone g1.fh (ha.mono g1) (hd.mono g1) (hb.mono g1) (g1.nn hk fd) (DM.gr ⟨kvs, hk, p⟩ g1) hm hl fun r F2 H2 g2 h0 f2 m => q r F2 H2 g2 h0 f2 m
theorem e_parted {fs : List Nat} {E : XK} {Q : VK} (e : ExT F H) (ha : Ev (rTurns C) ta σ F H t) (hd : EvD td σ F H ks) (hb : Ev rRef tb σ F H l) (hm : ∀ p ∈ ks, IsMap t.many p.1) (hz : ks.length ≤ 300)
    (fl : F l = none) (hl : H l = some (.lst (fs.map fun n : Nat => V.int (n : Int)))) (hn : fs.length = t.many)
    (k : ∀ r F' H', Gr (M1 l) F H F' H' → H r = none → F' r = none → DM rNat F' H' r (restM ks) → F' l = none → H' l = some (.lst ((partM ks fs).map fun n : Nat => V.int (n : Int))) → Q (.ref r) H') : tCall (SpParted C) [] E (tCons ta (tCons td (tCons tb tNil))) σ H Q :=
  ha F H (.refl e) _ fun v F1 H1 g1 r1 => hd F1 H1 g1 _ fun p F2 H2 g2 h0 f2 m2 => hb F2 H2 (g1.trans g2) _ fun u F3 H3 g3 r3 => by
    cases (show u = _ from r3)
    have G := g1.trans (g2.trans g3)
    have fp3 : F3 p = none := by obtain ⟨kvs, hk, _⟩ := m2; exact g3.nn hk f2
    exact ⟨F3, v, t, p, l, ks, fs, rfl, g3.fh, Mn.mono (g2.ff.trans g3.ff) r1, fp3, m2.gr g3, hm, hz, G.nn hl fl, G.hx _ _ hl, hn, fun r F' H' g hr fr m f' h' => k r F' H' (G.up.trans g) (G.free hr) fr m f' h'⟩
theorem e_mapCounts {n : Nat} {E : St → XK} {Q : VK} (e : ExT F H) (ha : Ev (rTurns C) ta σ F H t) (hb : Ev rInt tb σ F H (n : Int)) (hn : n ≤ 1000)
    (k : ∀ xs, mapsM t = some xs → ∀ ys, ys.Perm (mcM t n) → ∀ w F' H', Gr M0 F H F' H' → rLst (rPr (rTup rNat) rNat) F' w ys → Q w H') (kn : mapsM t = none → ∀ F' H', Gr M0 F H F' H' → E σ (.ref CM) none H') : tCallS (SpMapCounts C CM) E (tCons ta (tCons tb tNil)) σ H Q :=
  ha F H (.refl e) _ fun v F1 H1 g1 r1 => hb F1 H1 g1 _ fun w F2 H2 g2 r2 => by
    cases (show w = _ from r2)
    exact ⟨F2, v, t, n, rfl, g2.fh, Mn.mono g2.ff r1, hn, fun xs hx ys hy w F' H' g r => k xs hx ys hy w F' H' ((g1.trans g2).trans g) r, fun hx F' H' g => kn hx F' H' ((g1.trans g2).trans g)⟩
end
end El

set_option Elab.async false
set_option linter.all false
set_option maxRecDepth 100000
set_option maxHeartbeats 4000000
namespace El
open PySem PySem.Spec PyProof.Rows L2 RZ
variable [LawTabs]
/-! ### enumerate(tuple) -/
section
set_option maxHeartbeats 1000000 in
theorem meets_enum1 {v : Value} {o : Obj} {H : Heap → Prop} (B : Begins v o H) :
    Meets (Builtin.«enumerate.__new__» ⟨[.type "enumerate", v], []⟩) (fun _ R s => H s.heap ∧
      R (.ok (.ret (.ref (s.heap.push o).objs.size))) { s with heap := (s.heap.push o).push { cls := .type "enumerate", data := .fields #[.none, .bool false, .ref s.heap.objs.size, rawInt 0, .none, .none] } }) :=
  .of_wp fun prog w A R s h => by
    obtain ⟨hp, g, d, tk, os⟩ := s; obtain ⟨h1, h⟩ := h
    have hsub := sub_enumerate
    have q1 : ∀ {A' : Around} {E : Value → Shared → Prop} {Q : Value → Shared → Prop}, Q (.ref hp.objs.size) ⟨hp.push o, g, d, tk, os⟩ → wpAny (model prog w) A' (pyIter v) Q E ⟨hp, g, d, tk, os⟩ :=
      fun q => B.iter prog w _ _ ⟨hp, g, d, tk, os⟩ _ h1 q
    wp_walk using q1
    refine wpAny_stack_any fun st => wpAny_pure ?_
    split
    · rename_i c _ _ _ _ _
      cases (c == Value.type "enumerate")
      · wp_walk using q1
        exact ⟨_, rfl, h⟩
      · wp_walk using q1
        exact ⟨_, rfl, h⟩
    · wp_walk using q1
      exact ⟨_, rfl, h⟩
variable {prog : Program} {w : World} {A : Around} {E : Value → Shared → Prop} {s : Shared}
theorem call_enum1 {v : Value} {o : Obj} {H : Heap → Prop} {Q : Value → Shared → Prop} (B : Begins v o H) (h1 : H s.heap)
    (h : ∀ h', IsEnum h' (s.heap.objs.size + 1) s.heap.objs.size 0 .none → h'.get? s.heap.objs.size = some o → h'.objs.size = s.heap.objs.size + 2 →
      (∀ b o, s.heap.get? b = some o → h'.get? b = some o) → Q (.ref (s.heap.objs.size + 1)) { s with heap := h' }) :
    wpAny (model prog w) A (call (.type "enumerate") [v]) Q E s := by
  refine callType_new F.called_enumerate (by decide) (F.typeCall_enumerate_1 _) (F.newCall_enumerate_1 _) (fun obj => F.args_object_init_2 obj _) F.entry_enumerate_new
    (meets_enum1 B) ⟨h1, ?_⟩
  have hz : (s.heap.push o).objs.size = s.heap.objs.size + 1 := Heap.size_push ..
  show _ ∧ _
  rw [hz]
  have he : IsEnum ((s.heap.push o).push { cls := .type "enumerate", data := .fields #[.none, .bool false, .ref s.heap.objs.size, rawInt 0, .none, .none] }) (s.heap.objs.size + 1) s.heap.objs.size 0 .none := by
    have := Heap.get?_push_size (s.heap.push o) (o := { cls := .type "enumerate", data := .fields #[.none, .bool false, .ref s.heap.objs.size, rawInt 0, .none, .none] }) rfl
    rw [hz] at this; exact this
  refine ⟨⟨_, he, rfl⟩, h _ he (Heap.get?_push_of_some _ (Heap.get?_push_size _ B.free)) (by rw [Heap.size_push, hz]) fun b o x => Heap.get?_push_of_some _ (Heap.get?_push_of_some _ x)⟩
end
def IteT (K : PySem.W.Frag) (a : Addr) : It :=
  ⟨fun i H => ∃ (xs : List V) (x : V), SqT K H a xs ∧ xs[i]? = some x, fun i H v H' => ∃ T x, v = .ref T ∧ H T = none ∧ H' = upd H T (.tup [.int (i : Nat), x]) ∧ ∀ xs, SqT K H a xs → xs[i]? = some x, fun i H => ∃ xs : List V, SqT K H a xs ∧ xs.length ≤ i⟩
theorem turn_enumT {P : Program} {w : World} {K : PySem.W.Frag} {elts : List Expr} {kk : Nat} {tpos : Pos} (a e it : Addr) (hai : a ≠ it) (hae : a ≠ e) :
    Turn P w K (.Tuple elts kk tpos) (IteT K a) [e, it] e (fun i h => (∃ old, IsEnum h e it ((i : Nat) : Int) old) ∧ h.IsTupleIter it a i ∧ e ≠ it) where
  mem := by simp
  obj := fun i h st b hb => by
    obtain ⟨⟨old, he⟩, ⟨o, ho, hc, hd⟩, _⟩ := st
    have e' : b = e ∨ b = it := by simpa using hb
    rcases e' with z | z
    · rw [z]; exact ⟨_, he, fun v q => nomatch q⟩
    · rw [z]; exact ⟨o, ho, fun v q => by rw [hd] at q; cases q⟩
  keep := fun i h h' st k => let ⟨⟨old, he⟩, hi, hne⟩ := st; ⟨⟨old, k e (by simp) _ he⟩, hi.at fun o q => k it (by simp) o q, hne⟩
  item := by
    intro X hP hw hK hc i pins s σ H E I hf st hg
    subst hP hw hK
    obtain ⟨⟨old, he⟩, hit, hne⟩ := st
    obtain ⟨xs, x, hq, hx⟩ := hg
    obtain ⟨its, rv, p, hz⟩ := I.tuple hq
    obtain ⟨u, hu, ru⟩ := rv.get hx
    have hel : e < s.heap.objs.size := Heap.lt_size he
    have hil : it < s.heap.objs.size := by obtain ⟨_, q, _⟩ := hit; exact Heap.lt_size q
    have hlt : i < its.toArray.size := by
      have := (List.getElem?_eq_some_iff.mp hu).1
      simpa using this
    refine wpAny_pyNext_enum_itemC (Draws.tuple (A := X.A.in1) (I.ok.hd hc) it a hai its.toArray) he ⟨hit, p⟩ hlt hne (by simp [hne, hae.symm]) fun y h' tk hy ho hst hT hsz hk => ?_
    have ey : y = u := by
      have := hy.symm.trans (show its.toArray[i]? = some u by simpa using hu)
      exact Option.some.inj this
    subst ey
    obtain ⟨hit', _⟩ := hst
    refine ⟨_, rfl, wpAny_letOwnedTupleGo_enum (s := { s with heap := h', toks := tk + 1 }) ho fun h'' he' sb => ?_⟩
    have hT2 : h''.get? s.heap.objs.size = some { cls := .type "tuple", data := .seq #[.int i tk, y] } := (sb.2 _ (Nat.ne_of_gt hel)).trans hT
    have new : ObjOk X.prog X.w (upd H s.heap.objs.size (.tup [.int (i : Nat), x])) h'' s.heap.objs.size (.tup [.int (i : Nat), x]) :=
      ⟨by show 2 ≤ sizeLine; decide, [.int i tk, y], .cons ⟨_, rfl⟩ (.cons ru .nil), ⟨_, hT2, rfl, _, rfl⟩⟩
    have I1 : Inv X pins σ (upd H s.heap.objs.size (.tup [.int (i : Nat), x])) { s with heap := h'', toks := tk + 1 } :=
      I.turnedNew (ch := [e, it]) (fun b ob hb q => (sb.2 b (fun z => hb (by simp [z]))).trans (hk b ob (fun z => hb (by simp [z])) (fun z => hb (by simp [z])) q)) hf (Nat.le_refl _) new
    refine ⟨.ref s.heap.objs.size, _, I1, rfl, ⟨_, x, rfl, I.hok.fresh (Nat.le_refl _), rfl, fun ys hy => by rw [I.tuple_inj hy hq]; exact hx⟩, ⟨⟨y, ?_⟩, hit'.at fun o q => (sb.2 it (Ne.symm hne)).trans q, hne⟩, fun b hb => ?_⟩
    · have e1 : ((i + 1 : Nat) : Int) = (i : Int) + 1 := by omega
      rw [e1]; exact he'
    · have hb' : b < s.heap.objs.size := by
        have e' : b = e ∨ b = it := by simpa using hb
        rcases e' with z | z
        · rw [z]; exact hel
        · rw [z]; exact hil
      rw [upd_ne (Nat.ne_of_lt hb')]
      exact (hf b hb).1
  done := by
    intro X hP hw hK hc i pins s σ H E I hf st hg
    subst hP hw hK
    obtain ⟨⟨old, he⟩, hit, hne⟩ := st
    obtain ⟨xs, hq, hx⟩ := hg
    obtain ⟨its, rv, p, hz⟩ := I.tuple hq
    obtain ⟨f0, f1, f2, f3, f4, f5⟩ := hf it (by simp)
    have hl := rv.length
    have nx : wpAny (model X.prog X.w) X.A (pyNext (.ref e)) (fun v s' => v = none ∧ Inv X pins σ H s') E s := by
      have hT : s.TypeIs (.ref e) "enumerate" := ⟨_, he, rfl⟩
      unfold pyNext
      refine wpAny_bind (wpAny_attempt (wpAny_callSpecial?_slot (name := Str.ofString "__next__") hT F.slot_enumerate_next
        (wpAny_call_entry F.slot_enumerate_next hT F.entry_enumerate_next ?_ (F.args_enumerate_next_1 _))))
      show wpAny _ _ (field (.ref e) 2 >>= _) _ _ _
      refine wpAny_bind (wpAny_field he rfl (x := .ref it) rfl ?_)
      refine wpAny_bind (wpAny_nextOf_tuple_end (A := X.A.in1) (I.ok.hd hc) hit p (by simp; omega) fun h' x he' hx' => ?_)
      obtain ⟨o, ho, hc'⟩ := hx'
      refine wpAny_bind (wpAny_isInstance (T := "StopIteration") (b := true) ⟨o, ho, hc'⟩ isSubtype_stop ?_)
      exact wpAny_pure ⟨rfl, I.turned (t' := s.toks) (fun b o hb q => he' b o hb q) f0 f1 f3 f4 f5⟩
    exact nx
  self := fun A i s Q E st h => let ⟨⟨_, he⟩, _⟩ := st; wpAny_pyIter_enum he h
def iEnumT (K : PySem.W.Frag) (ta : TA) : TI := fun σ H R => ta σ H fun vs H1 => ∃ a xs, vs = [.ref a] ∧ SqT K H1 a xs ∧ R (IteT K a) H1
theorem kenumT {X : Cx} (K : PySem.W.Frag) {e : Expr} {ta : TA} {p pos tpos : Pos} {elts : List Expr} {kk : Nat} (hg : Gl X "enumerate") (hm : X.mg "enumerate" = none) (ha : PA X [e] ta) (hs : starEach [e] X.env = [(false, eval e X.env)] := by rfl) (hK : X.K = K := by rfl) :
    PI X (.Tuple elts kk tpos) (.Call (.Name "enumerate" p) [e] [] pos) (iEnumT K ta) := by
  subst hK
  refine ⟨fun pins s σ H R I h => ?_⟩
  refine Call_ (ld_blt I hg hm boot_enumerate (PyProof.Rows.callWith_type1 (thn (ha.run pos pins s σ H _ I h) fun us s1 ⟨vs, H1, I1, r1, q1⟩ => ?_) hs rfl))
  obtain ⟨a, xs, ex, hq, q⟩ := q1
  subst ex
  cases r1 with
  | cons r rr =>
    cases rr
    cases r
    obtain ⟨its, rv, p', hz⟩ := I1.tuple hq
    have hal : a < s1.heap.objs.size := by obtain ⟨_, h, _⟩ := p'; exact Heap.lt_size h
    refine call_enum1 (begins_tuple a its.toArray) p' fun h' he hit hsz hk => wpAny_pyIter_enum he ?_
    have I2 : Inv X pins σ H1 { s1 with heap := h' } := I1.kept (t' := s1.toks) hk
    refine ⟨s1.heap.objs.size + 1, [s1.heap.objs.size + 1, s1.heap.objs.size], _, _, H1, rfl, I2, turn_enumT a (s1.heap.objs.size + 1) s1.heap.objs.size (Nat.ne_of_lt hal) (Nat.ne_of_lt (Nat.lt_succ_of_lt hal)), ⟨⟨.none, he⟩, ⟨_, hit, rfl, rfl⟩, Nat.succ_ne_self _⟩, fun b hb => ?_, q⟩
    have e' : b = s1.heap.objs.size + 1 ∨ b = s1.heap.objs.size := by simpa using hb
    have hle : s1.heap.objs.size ≤ b := by
      rcases e' with z | z
      · rw [z]; exact Nat.le_add_right _ _
      · rw [z]; exact Nat.le_refl _
    exact I1.fpOk hle (I1.hok.fresh hle)
theorem walk_enumT {K : PySem.W.Frag} {a : Addr} {xs : List V} : Walk (IteT K a) xs.length (fun H => SqT K H a xs) (YPair (fun i => some (.int (i : Nat))) (fun i => xs[i]?)) := by
  refine ⟨fun i _ hi q => ⟨xs, xs[i], q, by simp [hi]⟩, fun _ q => ⟨xs, q, Nat.le_refl _⟩, fun i H v H' _ q y => ?_⟩
  obtain ⟨T, x, h1, h2, h3, h4⟩ := y
  exact ⟨T, .int (i : Nat), x, h1, h2, h3, rfl, h4 xs q⟩
section
variable {K : PySem.W.Frag} {σ : L2.St} {F H F' H' : Hp} {ta tb tc te tl : TE} {α β : Type} {R : Rp α} {S : Rp β} {x : α} {y : β} {D : Ends} {ts : TS} {xs : List α}
theorem x_forET {i j : Nat} (e : ExT F H) (h : Ev (rTup R) tl σ F H xs) (Pv : Nat → L2.St → Hp → Hp → Prop) (h0 : ∀ F1 H1, Gr M0 F H F1 H1 → Pv 0 σ F1 H1)
    (hst : ∀ n σ' F' H' F2 H2, Gr M0 F' H' F2 H2 → Pv n σ' F' H' → Pv n σ' F2 H2)
    (hs : ∀ F1, Ex F F1 → ∀ n x v σ' F' H', xs[n]? = some x → Ex F1 F' → ExT F' H' → R F' v x → Pv n σ' F' H' →
      ts { D with nx := fun σ2 H2 => ∃ F2, Ex F1 F2 ∧ ExT F2 H2 ∧ Pv (n + 1) σ2 F2 H2, ct := fun σ2 H2 => ∃ F2, Ex F1 F2 ∧ ExT F2 H2 ∧ Pv (n + 1) σ2 F2 H2, bk := D.nx } ((σ'.set i (some (.int (n : Int)))).set j (some v)) H')
    (hd : ∀ σ' F' H', Ex F F' → ExT F' H' → Pv xs.length σ' F' H' → D.nx σ' H') (m : Mn R := by infer_instance) : tFor (iEnumT K (tCons tl tNil)) (gTup K 2 (gCons (gName i) (gCons (gName j) gNil))) ts D σ H := by
  refine h F H (.refl e) _ fun v F1 H1 g1 ⟨a, vs, ea, hl, p⟩ => ⟨a, vs, by rw [ea], SqT.of (g1.fh _ _ hl), ?_⟩
  refine for_it walk_enumT (fun i σ' H' => ∃ F', Ex F1 F' ∧ ExT F' H' ∧ Pv i σ' F' H') ⟨F1, Ex.refl _, g1.fh, h0 F1 H1 g1⟩ (fun i σ' H' _ ⟨F', e1, e2, _⟩ => SqT.of (e2 _ _ (e1 _ _ hl))) ?_ ?_
  · rintro n w σ' H' H2 hi ⟨F', e1, e2, pv⟩ ⟨T, u, w2, rfl, hT, rfl, h1, h2⟩
    obtain ⟨x, hx, rx⟩ := Paired.getL p h2
    cases h1
    have g2 : Gr M0 F' H' (upd F' T (.tup [.int (n : Nat), w2])) (upd H' T (.tup [.int (n : Nat), w2])) := .new e2 hT
    exact ⟨T, [.int (n : Nat), w2], rfl, SqT.of upd_same, rfl, _, [w2], rfl, w2, [], rfl, rfl, hs F1 g1.ff n x w2 σ' _ _ hx (e1.trans g2.ff) g2.fh (m.mono (e1.trans g2.ff) rx) (hst _ _ _ _ _ _ g2 pv)⟩
  · rintro σ' H' ⟨F', e1, e2, pv⟩
    rw [p.length] at pv
    exact hd σ' F' H' (g1.ff.trans e1) e2 pv
/-- [[0] * n for j in range(n)], the rows may change -/
theorem x_zeros {i j n m : Nat} {vs : List Nat} (e : ExT F H) (h : Ev rInt ta σ F H (n : Int)) (hb : ∀ (i : Nat) F1 H1, Gr M0 F H F1 H1 → Ev rInt tb ((wipe σ vs).set j (some (.int (i : Int)))) F1 H1 (m : Int)) (hm : m ≤ 1000000) (hz : n ≤ 1000000) (hw : ∀ v, wipe ((wipe σ vs).set j (some v)) vs = wipe σ vs)
    (k : ∀ (l : Addr) (as : List Addr) F' H', Gr M0 F H F' H' → as.length = n → H l = none → F' l = none → H' l = some (.lst (as.map V.ref)) → as.Nodup → (∀ b ∈ as, H b = none ∧ F' b = none ∧ H' b = some (.lst (List.replicate m (V.int 0))) ∧ b ≠ l) → D.nx (σ.set i (some (.ref l))) H') : tAsg (tLc (iRng1 (tCons ta tNil)) (gName j) tYes (tOp rRep (tLst (tCons (tC (.int 0)) tNil)) tb) vs) (gName i) D σ H := by
  refine h F H (.refl e) _ fun v F2 H2 g2 ea => ⟨(n : Int), by rw [show v = _ from ea], by omega, by omega, fun B hB => ?_⟩
  rw [Int.toNat_natCast]
  have hB0 : H B = none := Gr.free g2 hB
  refine lc_range (lo := 0) (n := n) (fun i H' => ∃ (F' : Hp) (as : List Addr), Gr M0 F H F' H' ∧ as.length = i ∧ F' B = none ∧ H' B = some (.lst (as.map V.ref)) ∧ as.Nodup ∧ ∀ b ∈ as, H b = none ∧ F' b = none ∧ H' b = some (.lst (List.replicate m (V.int 0))) ∧ b ≠ B)
    ⟨F2, [], g2.trans (.loc g2.fh hB), rfl, g2.fh.free hB, upd_same, List.nodup_nil, fun _ h => nomatch h⟩ ?_ ?_
  · rintro i H' hi ⟨F', as, g, hl, fB, hB', nd, hb'⟩
    refine ⟨hw _, ?_⟩
    rw [Int.zero_add]
    refine ⟨by show 1 ≤ sizeLine; decide, fun c1 hc1 => ?_⟩
    have hc1B : c1 ≠ B := fun z => by subst z; rw [hB'] at hc1; cases hc1
    have g2' : Gr M0 F' H' (upd F' c1 (.lst [V.int 0])) (upd H' c1 (.lst [V.int 0])) := .new g.fh hc1
    refine hb i _ _ (g.trans g2') _ _ (.refl g2'.fh) _ fun w F3 H3 g3 e2 => ?_
    refine ⟨c1, (m : Int), [V.int 0], rfl, e2, g3.hx _ _ upd_same, by omega, by omega, by show 1 * ((m : Int)).toNat ≤ sizeLine; rw [sizeLine_eq]; omega, fun c hc => ?_⟩
    have er : (List.replicate ((m : Int)).toNat [V.int 0]).flatten = List.replicate m (V.int 0) := by
      rw [Int.toNat_natCast]
      exact flat_one (V.int 0) m
    rw [er]
    have g23 := g2'.trans g3
    have hB3 := g23.hx _ _ hB'
    have fB3 := g23.nn hB' fB
    have hcB : c ≠ B := fun z => by subst z; rw [hB3] at hc; cases hc
    have hcn : c ∉ as := fun z => by
      have := g23.hx _ _ (hb' c z).2.2.1
      rw [this] at hc; cases hc
    have gA := (g.trans g23).trans (Gr.loc g3.fh hc (o := .lst (List.replicate m (V.int 0))))
    have fc : F3 c = none := g3.fh.free hc
    have hc0 : H c = none := Gr.free (g.trans g23) hc
    refine ⟨as.map V.ref, by rw [upd_ne hcB.symm]; exact hB3, by rw [List.length_map, hl, sizeLine_eq]; omega, F3, as ++ [c], gA.set' fB3 (.inl hB0), by rw [List.length_append, hl]; rfl, fB3, by rw [upd_same, List.map_append]; rfl, ?_, fun b hbm => ?_⟩
    · refine List.nodup_append.mpr ⟨nd, by simp, fun x hx y hy => ?_⟩
      rw [List.mem_singleton.mp hy]
      intro z
      rw [z] at hx
      exact hcn hx
    · rcases List.mem_append.mp hbm with h | h
      · obtain ⟨h1, h2, h3, h4⟩ := hb' b h
        refine ⟨h1, g23.nn h3 h2, ?_, h4⟩
        rw [upd_ne h4, upd_ne (fun z : b = c => hcn (by rw [← z]; exact h))]
        exact g23.hx _ _ h3
      · rw [List.mem_singleton.mp h]
        exact ⟨hc0, fc, by rw [upd_ne hcB, upd_same], hcB⟩
  · rintro H' ⟨F', as, g, hl, fB, hB', nd, hb'⟩
    exact k B as F' H' g hl hB0 fB hB' nd hb'
end
end El

set_option Elab.async false
set_option linter.all false
set_option maxRecDepth 100000
set_option maxHeartbeats 4000000
namespace El
open PySem PySem.Spec L2
variable [LawTabs]
/-! ### sums over maps and their numbers -/
def tot (ks : List (List Nat × Nat)) (p : List Nat → Bool) : Nat := (ks.map fun q => if p q.1 = true then q.2 else 0).sum
def metP (i : Nat) (m : List Nat) : Bool := metB m && decide (m.headD 0 = i)
def ledP (j i : Nat) (m : List Nat) : Bool := !metB m && decide (m.getD j 0 = i)
def metL (n : Nat) (ks : List (List Nat × Nat)) : List Nat := (List.range n).map fun i => tot ks (metP i)
def ledR (n : Nat) (ks : List (List Nat × Nat)) (j : Nat) : List Nat := (List.range n).map fun i => tot ks (ledP j i)
def ledL (n : Nat) (ks : List (List Nat × Nat)) : List (List Nat) := (List.range n).map fun j => ledR n ks j
theorem tot_nil {p : List Nat → Bool} : tot [] p = 0 := rfl
theorem tot_cons {q : List Nat × Nat} {ks : List (List Nat × Nat)} {p : List Nat → Bool} : tot (q :: ks) p = (if p q.1 = true then q.2 else 0) + tot ks p := rfl
theorem tot_app {p : List Nat → Bool} : ∀ {ks js : List (List Nat × Nat)}, tot (ks ++ js) p = tot ks p + tot js p
  | [], js => by rw [List.nil_append, tot_nil, Nat.zero_add]
  | q :: ks, js => by rw [List.cons_append, tot_cons, tot_cons, tot_app, Nat.add_assoc]
theorem tot_take {p : List Nat → Bool} {ks : List (List Nat × Nat)} {i : Nat} {q : List Nat × Nat} (h : ks[i]? = some q) : tot (ks.take (i + 1)) p = tot (ks.take i) p + (if p q.1 = true then q.2 else 0) := by
  rw [List.take_add_one, h, tot_app]
  rfl
theorem tot_perm {p : List Nat → Bool} {ks js : List (List Nat × Nat)} (h : ks.Perm js) : tot ks p = tot js p := (h.map _).sum_nat
theorem metL_perm {n : Nat} {ks js : List (List Nat × Nat)} (h : ks.Perm js) : metL n ks = metL n js := by
  unfold metL
  exact List.map_congr_left fun i _ => tot_perm h
theorem ledL_perm {n : Nat} {ks js : List (List Nat × Nat)} (h : ks.Perm js) : ledL n ks = ledL n js := by
  unfold ledL ledR
  exact List.map_congr_left fun j _ => List.map_congr_left fun i _ => tot_perm h
theorem set_fn {n i k : Nat} {f : Nat → Nat} (hi : i < n) : (((List.range n).map f).map fun x : Nat => V.int (x : Int)).set i (.int ((f i : Nat) + (k : Int))) = ((List.range n).map fun x => f x + if x = i then k else 0).map fun x : Nat => V.int (x : Int) := by
  refine ext_getD V.non (by rw [List.length_set, List.length_map, List.length_map, List.length_map, List.length_map]) fun q hq => ?_
  rw [List.length_set, List.length_map, List.length_map, List.length_range] at hq
  have right : (((List.range n).map fun x => f x + if x = i then k else 0).map fun x : Nat => V.int (x : Int)).getD q V.non = V.int ((f q + if q = i then k else 0 : Nat) : Int) := getD_eq (by rw [List.getElem?_map, List.getElem?_map, List.getElem?_range hq]; rfl)
  rw [right]
  by_cases z : q = i
  · subst z
    rw [getD_eq (by rw [List.getElem?_set_self (by rw [List.length_map, List.length_map, List.length_range]; exact hq)]), if_pos rfl, Int.natCast_add]
  · rw [if_neg z, Nat.add_zero, getD_eq (by rw [List.getElem?_set_ne (fun e => z e.symm), List.getElem?_map, List.getElem?_map, List.getElem?_range hq]; rfl)]
theorem metL_step {n i : Nat} {ys : List (List Nat × Nat)} {q : List Nat × Nat} (h : ys[i]? = some q) (hm : metB q.1 = true) : metL n (ys.take (i + 1)) = (List.range n).map fun x => tot (ys.take i) (metP x) + if x = q.1.headD 0 then q.2 else 0 := by
  unfold metL
  refine List.map_congr_left fun x _ => ?_
  rw [tot_take h]
  congr 1
  unfold metP
  rw [hm, Bool.true_and]
  by_cases z : x = q.1.headD 0
  · rw [if_pos (decide_eq_true z.symm), if_pos z]
  · rw [if_neg (by rw [decide_eq_false (fun e => z e.symm)]; exact Bool.false_ne_true), if_neg z]
theorem metL_stay {n i : Nat} {ys : List (List Nat × Nat)} {q : List Nat × Nat} (h : ys[i]? = some q) (hm : metB q.1 = false) : metL n (ys.take (i + 1)) = metL n (ys.take i) := by
  unfold metL
  refine List.map_congr_left fun x _ => ?_
  rw [tot_take h]
  unfold metP
  rw [hm]
  rfl
theorem ledR_step {n i j : Nat} {ys : List (List Nat × Nat)} {q : List Nat × Nat} (h : ys[i]? = some q) (hm : metB q.1 = false) : ledR n (ys.take (i + 1)) j = (List.range n).map fun x => tot (ys.take i) (ledP j x) + if x = q.1.getD j 0 then q.2 else 0 := by
  unfold ledR
  refine List.map_congr_left fun x _ => ?_
  rw [tot_take h]
  congr 1
  unfold ledP
  rw [hm, Bool.not_false, Bool.true_and]
  by_cases z : x = q.1.getD j 0
  · rw [if_pos (decide_eq_true z.symm), if_pos z]
  · rw [if_neg (by rw [decide_eq_false (fun e => z e.symm)]; exact Bool.false_ne_true), if_neg z]
theorem ledR_stay {n i j : Nat} {ys : List (List Nat × Nat)} {q : List Nat × Nat} (h : ys[i]? = some q) (hm : metB q.1 = true) : ledR n (ys.take (i + 1)) j = ledR n (ys.take i) j := by
  unfold ledR
  refine List.map_congr_left fun x _ => ?_
  rw [tot_take h]
  unfold ledP
  rw [hm]
  rfl
theorem metL_zero {n : Nat} : (metL n []).map (fun x : Nat => V.int (x : Int)) = List.replicate n (V.int 0) := by
  refine List.eq_replicate_iff.mpr ⟨by unfold metL; rw [List.length_map, List.length_map, List.length_range], fun b hb => ?_⟩
  obtain ⟨x, hx, rfl⟩ := List.mem_map.mp hb
  obtain ⟨i, _, rfl⟩ := List.mem_map.mp hx
  rfl
theorem ledR_zero {n j : Nat} : (ledR n [] j).map (fun x : Nat => V.int (x : Int)) = List.replicate n (V.int 0) := by
  refine List.eq_replicate_iff.mpr ⟨by unfold ledR; rw [List.length_map, List.length_map, List.length_range], fun b hb => ?_⟩
  obtain ⟨x, hx, rfl⟩ := List.mem_map.mp hb
  obtain ⟨i, _, rfl⟩ := List.mem_map.mp hx
  rfl
def blocksM (t : Tn) (n : Nat) : Option (List Nat × List (List Nat)) := match mapsM t with
  | none => none
  | some _ => some (metL t.many (mcM t n), ledL t.many (mcM t n))
theorem blocksM_some {t : Tn} {n : Nat} {xs : List (List Nat)} (h : mapsM t = some xs) : blocksM t n = some (metL t.many (mcM t n), ledL t.many (mcM t n)) := by
  unfold blocksM
  rw [h]
theorem blocksM_none {t : Tn} {n : Nat} (h : mapsM t = none) : blocksM t n = none := by
  unfold blocksM
  rw [h]
/-- a value that is there -/
def tcv (w : V) : TE := fun _ H Q => Q w H
theorem ev_cv {α : Type} {R : Rp α} {F H : Hp} {σ : St} {w : V} {x : α} (r : R F w x) (m : Mn R := by infer_instance) : Ev R (tcv w) σ F H x := fun F1 H1 g1 Q q => q w F1 H1 (.refl g1.fh) (m.mono g1.ff r)
end El

set_option Elab.async false
set_option linter.all false
set_option maxRecDepth 100000
set_option maxHeartbeats 4000000
namespace El
open PySem PySem.Spec L2
variable [LawTabs]
/-! ### how many words have such a map -/
theorem sum_swap {α β : Type} (f : α → β → Nat) : ∀ (xs : List α) (ys : List β), (xs.map fun x => (ys.map fun y => f x y).sum).sum = (ys.map fun y => (xs.map fun x => f x y).sum).sum
  | [], ys => by
    show 0 = (ys.map fun y => 0).sum
    induction ys with
    | nil => rfl
    | cons y ys ih => rw [List.map_cons, List.sum_cons, ← ih]; rfl
  | x :: xs, ys => by
    rw [List.map_cons, List.sum_cons, sum_swap f xs ys]
    induction ys with
    | nil => rfl
    | cons y ys ih =>
      simp only [List.map_cons, List.sum_cons] at ih ⊢
      omega
theorem sum_congr {α : Type} {f g : α → Nat} {xs : List α} (h : ∀ x ∈ xs, f x = g x) : (xs.map f).sum = (xs.map g).sum := by rw [List.map_congr_left h]
theorem look_none {ks : List (List Nat × Nat)} {m : List Nat} (h : m ∉ ks.map (·.1)) : lookM ks m = none := by
  cases q : lookM ks m with
  | none => rfl
  | some z => exact absurd (lookM_mem.mp (by rw [q]; rfl)) h
theorem tot_map {ks : List (List Nat × Nat)} {m : List Nat} {y : Nat} {p : List Nat → Bool} (nd : (ks.map (·.1)).Nodup) : tot (ks.map fun q => if q.1 = m then (q.1, y) else q) p + (if p m = true then (lookM ks m).getD 0 else 0) = tot ks p + (if p m = true then (if m ∈ ks.map (·.1) then y else 0) else 0) := by
  induction ks with
  | nil => show 0 + (if p m = true then 0 else 0) = 0 + (if p m = true then (if m ∈ [] then y else 0) else 0); split <;> rfl
  | cons q ks ih =>
    obtain ⟨h1, h2⟩ := List.nodup_cons.mp nd
    have ih := ih h2
    rw [List.map_cons, tot_cons, tot_cons]
    by_cases e : q.1 = m
    · subst e
      have ln := look_none h1
      rw [if_pos rfl, lookM_pos rfl]
      rw [ln, if_neg h1] at ih
      have hin : q.1 ∈ (q :: ks).map (·.1) := List.mem_cons_self
      rw [if_pos hin]
      show (if p q.1 = true then y else 0) + _ + (if p q.1 = true then q.2 else 0) = _
      by_cases hp : p q.1 = true
      · rw [if_pos hp] at ih ⊢
        rw [if_pos hp] at ih
        have : (Option.getD (none : Option Nat) 0) = 0 := rfl
        omega
      · rw [if_neg hp] at ih ⊢
        rw [if_neg hp] at ih
        omega
    · rw [if_neg e, lookM_neg e]
      have : (m ∈ (q :: ks).map (·.1)) ↔ m ∈ ks.map (·.1) := by rw [List.map_cons, List.mem_cons]; exact ⟨fun h => h.resolve_left fun z => e z.symm, .inr⟩
      by_cases hin : m ∈ ks.map (·.1)
      · rw [if_pos (this.mpr hin)]
        rw [if_pos hin] at ih
        omega
      · rw [if_neg (fun z => hin (this.mp z))]
        rw [if_neg hin] at ih
        omega
theorem tot_add {acc : List (List Nat × Nat)} {to : List Nat} {n : Nat} {p : List Nat → Bool} (nd : (acc.map (·.1)).Nodup) : tot (addK acc to n) p = tot acc p + (if p to = true then n else 0) := by
  unfold addK putM
  by_cases h : (lookM acc to).isSome = true
  · rw [if_pos h]
    have := tot_map (m := to) (y := (lookM acc to).getD 0 + n) (p := p) nd
    rw [if_pos (lookM_mem.mp h)] at this
    by_cases hp : p to = true
    · rw [if_pos hp] at this ⊢
      rw [if_pos hp] at this
      omega
    · rw [if_neg hp] at this ⊢
      rw [if_neg hp] at this
      omega
  · rw [if_neg h, tot_app]
    have : lookM acc to = none := by
      cases q : lookM acc to with
      | none => rfl
      | some z => rw [q] at h; exact absurd rfl h
    rw [this]
    show _ + ((if p to = true then 0 + n else 0) + 0) = _
    rw [Nat.zero_add, Nat.add_zero]
theorem tot_fold {e : Bool} {q : List Nat × Nat} {p : List Nat → Bool} : ∀ {ss : List (List Nat)} {acc : List (List Nat × Nat)}, (acc.map (·.1)).Nodup → tot (ss.foldl (fun acc s => addK acc (toK e s q.1) q.2) acc) p = tot acc p + (ss.map fun s => if p (toK e s q.1) = true then q.2 else 0).sum
  | [], _, _ => rfl
  | s :: ss, acc, nd => by
    show tot (ss.foldl _ (addK acc (toK e s q.1) q.2)) p = _
    rw [tot_fold (add_nd nd), tot_add nd, List.map_cons, List.sum_cons, Nat.add_assoc]
theorem tot_gone {t : Tn} {e : Bool} {p : List Nat → Bool} : ∀ {ks acc : List (List Nat × Nat)}, (acc.map (·.1)).Nodup → tot (ks.foldl (fun acc p => t.maps.foldl (fun acc s => addK acc (toK e s p.1) p.2) acc) acc) p = tot acc p + (ks.map fun q => (t.maps.map fun s => if p (toK e s q.1) = true then q.2 else 0).sum).sum
  | [], _, _ => rfl
  | q :: ks, acc, nd => by
    show tot (ks.foldl _ (t.maps.foldl (fun acc s => addK acc (toK e s q.1) q.2) acc)) p = _
    rw [tot_gone (fold_add_nd nd), tot_fold nd, List.map_cons, List.sum_cons, Nat.add_assoc]
theorem tot_goneM {t : Tn} {e : Bool} {p : List Nat → Bool} {ks : List (List Nat × Nat)} : tot (goneM t ks e) p = (t.maps.map fun s => tot ks fun m => p (toK e s m)).sum := by
  unfold goneM
  rw [tot_gone (acc := []) List.nodup_nil, tot_nil, Nat.zero_add, sum_swap]
  rfl
/-- of all words of so many maps, how many have a map such as p says; n is the map of no signs -/
def numW (maps : List (List Nat)) (b : List Nat) : Nat → (List Nat → Bool) → Nat
  | 0, p => if p b = true then 1 else 0
  | n + 1, p => (maps.map fun s => numW maps b n fun m => p (thenM m s)).sum
theorem tot_mc {t : Tn} : ∀ {n : Nat} {p : List Nat → Bool}, tot (mcM t n) p = numW t.maps (idMap t.many) n p
  | 0, p => rfl
  | n + 1, p => by
    show tot (goneM t (mcM t n) false) p = _
    rw [tot_goneM]
    exact sum_congr fun s _ => tot_mc
theorem numW_perm {maps maps' : List (List Nat)} {b : List Nat} (h : maps.Perm maps') : ∀ {n : Nat} {p : List Nat → Bool}, numW maps b n p = numW maps' b n p
  | 0, _ => rfl
  | n + 1, p => by
    show (maps.map _).sum = (maps'.map _).sum
    rw [(h.map _).sum_nat]
    exact sum_congr fun s _ => numW_perm h
theorem sum_rep {α : Type} (f : α → Nat) (xs : List α) : ∀ k : Nat, ((List.replicate k xs).flatten.map f).sum = k * (xs.map f).sum
  | 0 => by rw [Nat.zero_mul]; rfl
  | k + 1 => by
    rw [List.replicate_succ, List.flatten_cons, List.map_append, List.sum_append, sum_rep f xs k, Nat.succ_mul]
    omega
theorem sum_mul {α : Type} (c : Nat) (f : α → Nat) : ∀ xs : List α, (xs.map fun x => c * f x).sum = c * (xs.map f).sum
  | [] => rfl
  | x :: xs => by rw [List.map_cons, List.map_cons, List.sum_cons, List.sum_cons, sum_mul c f xs, Nat.mul_add]
theorem numW_rep {maps : List (List Nat)} {b : List Nat} {k : Nat} : ∀ {n : Nat} {p : List Nat → Bool}, numW (List.replicate k maps).flatten b n p = k ^ n * numW maps b n p
  | 0, p => by show _ = 1 * _; rw [Nat.one_mul]; rfl
  | n + 1, p => by
    show ((List.replicate k maps).flatten.map _).sum = k ^ (n + 1) * (maps.map _).sum
    have : (maps.map fun s => numW (List.replicate k maps).flatten b n fun m => p (thenM m s)).sum = k ^ n * (maps.map fun s => numW maps b n fun m => p (thenM m s)).sum := by
      rw [← sum_mul]
      exact sum_congr fun s _ => numW_rep
    rw [sum_rep, this, Nat.pow_succ, Nat.mul_comm (k ^ n) k, Nat.mul_assoc]
theorem sum_le {α : Type} {f g : α → Nat} : ∀ {xs : List α}, (∀ x ∈ xs, f x ≤ g x) → (xs.map f).sum ≤ (xs.map g).sum
  | [], _ => Nat.le_refl _
  | x :: xs, h => by
    rw [List.map_cons, List.map_cons, List.sum_cons, List.sum_cons]
    exact Nat.add_le_add (h x List.mem_cons_self) (sum_le fun y hy => h y (List.mem_cons_of_mem _ hy))
theorem numW_more {maps : List (List Nat)} {b z : List Nat} : ∀ {n : Nat} {p : List Nat → Bool}, numW maps b n p ≤ numW (maps ++ [z]) b n p
  | 0, _ => Nat.le_refl _
  | n + 1, p => by
    show (maps.map _).sum ≤ ((maps ++ [z]).map _).sum
    rw [List.map_append, List.sum_append]
    refine Nat.le_trans (sum_le fun s _ => ?_) (Nat.le_add_right _ _)
    exact numW_more
theorem numW_true {maps : List (List Nat)} {b : List Nat} : ∀ {n : Nat}, numW maps b n (fun _ => true) = maps.length ^ n
  | 0 => rfl
  | n + 1 => by
    show (maps.map fun s => numW maps b n fun _ => true).sum = _
    rw [numW_true, Nat.pow_succ]
    have : ∀ xs : List (List Nat), (xs.map fun _ => maps.length ^ n).sum = maps.length ^ n * xs.length := fun xs => by
      induction xs with
      | nil => rfl
      | cons x xs ih => rw [List.map_cons, List.sum_cons, ih, List.length_cons, Nat.mul_succ]; omega
    exact this maps
theorem numW_congr {k : Nat} {maps : List (List Nat)} {b : List Nat} (hb : IsMap k b) (hm : ∀ s ∈ maps, IsMap k s) : ∀ {n : Nat} {p q : List Nat → Bool}, (∀ m, IsMap k m → p m = q m) → numW maps b n p = numW maps b n q
  | 0, p, q, h => by show (if p b = true then 1 else 0) = (if q b = true then 1 else 0); rw [h b hb]
  | n + 1, p, q, h => sum_congr fun s hs => numW_congr hb hm fun m h' => h _ (isMap_then h' (hm s hs))
theorem sum_zero {α : Type} : ∀ xs : List α, (xs.map fun _ => 0).sum = 0
  | [] => rfl
  | x :: xs => by rw [List.map_cons, List.sum_cons, sum_zero xs]
theorem numW_false {maps : List (List Nat)} {b : List Nat} : ∀ {n : Nat}, numW maps b n (fun _ => false) = 0
  | 0 => rfl
  | n + 1 => by
    show (maps.map fun s => numW maps b n fun _ => false).sum = 0
    rw [numW_false]
    exact sum_zero maps
/-- words of several kinds, taken apart -/
theorem numW_parts {α : Type} {k : Nat} {maps : List (List Nat)} {b : List Nat} (hb : IsMap k b) (hm : ∀ s ∈ maps, IsMap k s) : ∀ {n : Nat} {p : List Nat → Bool} {xs : List α} {q : α → List Nat → Bool}, (∀ m, IsMap k m → (if p m = true then 1 else 0) = (xs.map fun x => if q x m = true then 1 else 0).sum) → numW maps b n p = (xs.map fun x => numW maps b n (q x)).sum
  | 0, p, xs, q, h => h b hb
  | n + 1, p, xs, q, h => by
    show (maps.map _).sum = (xs.map fun x => (maps.map fun s => numW maps b n fun m => q x (thenM m s)).sum).sum
    rw [sum_swap]
    exact sum_congr fun s hs => numW_parts hb hm fun m h' => h _ (isMap_then h' (hm s hs))
theorem sum_one {α : Type} [DecidableEq α] {xs : List α} {a : α} (nd : xs.Nodup) (h : a ∈ xs) (f : α → Nat) : (xs.map fun x => if a = x then f x else 0).sum = f a := by
  induction xs with
  | nil => cases h
  | cons x xs ih =>
    obtain ⟨h1, h2⟩ := List.nodup_cons.mp nd
    rw [List.map_cons, List.sum_cons]
    by_cases e : a = x
    · subst e
      rw [if_pos rfl]
      have : (xs.map fun x => if a = x then f x else 0).sum = 0 := by
        have : xs.map (fun x => if a = x then f x else 0) = xs.map fun _ => 0 := List.map_congr_left fun y hy => if_neg fun (z : a = y) => h1 (by rw [z]; exact hy)
        rw [this]
        clear ih nd h h1 h2 this
        induction xs with
        | nil => rfl
        | cons y ys ih => rw [List.map_cons, List.sum_cons, ih]
      omega
    · rw [if_neg e, ih h2 ((List.mem_cons.mp h).resolve_left e), Nat.zero_add]
/-- that many of the words lead j to i -/
def atP (j i : Nat) (m : List Nat) : Bool := decide (m.getD j 0 = i)
def qN (maps : List (List Nat)) (k n j i : Nat) : Nat := numW maps (idMap k) n (atP j i)
def cntS1 (maps : List (List Nat)) (a i : Nat) : Nat := (maps.map fun s => if s.getD a 0 = i then 1 else 0).sum
theorem map_ltD {k : Nat} {m : List Nat} (h : IsMap k m) {j : Nat} (hj : j < k) : m.getD j 0 < k := by
  have := at_getD (xs := m) (i := j) (d := 0) (by rw [h.1]; exact hj)
  exact h.2 _ (List.mem_of_getElem? this)
theorem then_getD {m s : List Nat} {j : Nat} (h : j < m.length) : (thenM m s).getD j 0 = s.getD (m.getD j 0) 0 := by
  unfold thenM
  refine getD_eq ?_
  rw [List.getElem?_map, at_getD (d := 0) h]
  rfl
theorem qN_zero {maps : List (List Nat)} {k j i : Nat} (hj : j < k) : qN maps k 0 j i = if j = i then 1 else 0 := by
  show (if atP j i (idMap k) = true then 1 else 0) = _
  have : (idMap k).getD j 0 = j := getD_eq (by unfold idMap; exact List.getElem?_range hj)
  unfold atP
  rw [this]
  by_cases e : j = i
  · rw [if_pos e, if_pos (decide_eq_true e)]
  · rw [if_neg e, if_neg (by rw [decide_eq_false e]; exact Bool.false_ne_true)]
theorem qN_succ {maps : List (List Nat)} {k n j i : Nat} (hm : ∀ s ∈ maps, IsMap k s) (hj : j < k) : qN maps k (n + 1) j i = ((List.range k).map fun b => qN maps k n j b * cntS1 maps b i).sum := by
  show (maps.map fun s => numW maps (idMap k) n fun m => atP j i (thenM m s)).sum = _
  have e1 : ∀ s ∈ maps, numW maps (idMap k) n (fun m => atP j i (thenM m s)) = ((List.range k).map fun b => qN maps k n j b * (if s.getD b 0 = i then 1 else 0)).sum := fun s hs => by
    rw [numW_parts (k := k) (xs := List.range k) (q := fun b m => atP j b m && decide (s.getD b 0 = i)) (isMap_id k) hm fun m h' => ?_]
    · refine sum_congr fun b _ => ?_
      by_cases e : s.getD b 0 = i
      · rw [if_pos e, Nat.mul_one]
        refine numW_congr (isMap_id k) hm fun m _ => ?_
        rw [decide_eq_true e, Bool.and_true]
      · rw [if_neg e, Nat.mul_zero]
        rw [numW_congr (q := fun _ => false) (isMap_id k) hm fun m _ => by rw [decide_eq_false e, Bool.and_false]]
        exact numW_false
    · rw [show atP j i (thenM m s) = decide (s.getD (m.getD j 0) 0 = i) by unfold atP; rw [then_getD (by rw [h'.1]; exact hj)]]
      have := sum_one (List.nodup_range (n := k)) (List.mem_range.mpr (map_ltD h' hj)) fun b => if s.getD b 0 = i then 1 else 0
      rw [show (if decide (s.getD (m.getD j 0) 0 = i) = true then 1 else 0) = (if s.getD (m.getD j 0) 0 = i then 1 else 0) by
        by_cases e : s.getD (m.getD j 0) 0 = i
        · rw [if_pos e, if_pos (decide_eq_true e)]
        · rw [if_neg e, if_neg (by rw [decide_eq_false e]; exact Bool.false_ne_true)]]
      rw [← this]
      refine sum_congr fun b _ => ?_
      unfold atP
      by_cases e : m.getD j 0 = b
      · rw [if_pos e, decide_eq_true e, Bool.true_and]
        by_cases e2 : s.getD b 0 = i
        · rw [if_pos e2, if_pos (decide_eq_true e2)]
        · rw [if_neg e2, if_neg (by rw [decide_eq_false e2]; exact Bool.false_ne_true)]
      · rw [if_neg e, decide_eq_false e, Bool.false_and, if_neg Bool.false_ne_true]
  rw [sum_congr e1, sum_swap]
  refine sum_congr fun b _ => ?_
  rw [sum_mul]
  rfl
end El

set_option Elab.async false
set_option linter.all false
set_option maxRecDepth 100000
set_option maxHeartbeats 4000000
namespace El
open PySem PySem.Spec L2
variable [LawTabs]
/-! ### the rows that reading once asks to be solved -/
def onceRows (n : Nat) (met : List Nat) (led : List (List Nat)) : List (List Int) := (List.range n).map fun to => ((List.range n).map fun p => ((met.sum + (led.getD 0 []).sum : Nat) : Int) * (if p = to then 1 else 0) - ((led.getD p []).getD to 0 : Int)) ++ [(met.getD to 0 : Int)]
structure OnceOk (n : Nat) (met : List Nat) (led : List (List Nat)) (e : Nat) : Prop where
  n0 : 1 ≤ n
  ml : met.length = n
  ll : led.length = n
  lr : ∀ j, j < n → (led.getD j []).length = n
  sum : ∀ j, j < n → met.sum + (led.getD j []).sum = e
  pos : 1 ≤ met.sum
section
variable {n : Nat} {met : List Nat} {led : List (List Nat)} {e : Nat}
theorem once_len : (onceRows n met led).length = n := by unfold onceRows; rw [List.length_map, List.length_range]
theorem once_wide {r : List Int} (h : r ∈ onceRows n met led) : r.length = n + 1 := by
  unfold onceRows at h
  obtain ⟨to, _, rfl⟩ := List.mem_map.mp h
  rw [List.length_append, List.length_map, List.length_range]
  rfl
theorem once_at (o : OnceOk n met led e) {i j : Nat} (hi : i < n) (hj : j < n) : mxOf (onceRows n met led) j i = (e : Int) * (if j = i then 1 else 0) - ((led.getD j []).getD i 0 : Int) := by
  unfold mxOf onceRows
  rw [getD_range hi, o.sum 0 o.n0]
  refine getD_eq ?_
  rw [List.getElem?_append_left (by rw [List.length_map, List.length_range]; exact hj), List.getElem?_map, List.getElem?_range hj]
  rfl
theorem once_last {i : Nat} (hi : i < n) : mxOf (onceRows n met led) n i = (met.getD i 0 : Int) := by
  unfold mxOf onceRows
  rw [getD_range hi]
  refine getD_eq ?_
  rw [List.getElem?_append_right (by rw [List.length_map, List.length_range]; exact Nat.le_refl _), List.length_map, List.length_range, Nat.sub_self]
  rfl
theorem led_le (o : OnceOk n met led e) {i j : Nat} (hi : i < n) (hj : j < n) : (led.getD j []).getD i 0 ≤ e := by
  have h1 := o.sum j hj
  have h2 := sum_ge (List.mem_of_getElem? (at_getD (xs := led.getD j []) (i := i) (d := 0) (by rw [o.lr j hj]; exact hi)))
  omega
theorem met_le (o : OnceOk n met led e) {i : Nat} (hi : i < n) : met.getD i 0 ≤ e := by
  have h1 := o.sum 0 o.n0
  have h2 := sum_ge (List.mem_of_getElem? (at_getD (xs := met) (i := i) (d := 0) (by rw [o.ml]; exact hi)))
  omega
theorem row_sumQ {l : List Nat} (h : l.length = n) : (sumQ n fun b => (l.getD b 0 : Rat)) = (l.sum : Rat) := by rw [← h]; exact sumQ_list l
theorem sum_split (a b c : Nat) (h : a + b = c) : (b : Rat) = (c : Rat) - (a : Rat) := by
  subst h
  have : ((a + b : Nat) : Rat) = (a : Rat) + (b : Rat) := by
    have := Rat.intCast_add (a : Int) (b : Int)
    rw [← Int.natCast_add] at this
    exact this
  rw [this]
  grind
theorem castOne : (((1 : Int)) : Rat) = 1 := rfl
theorem castZero : (((0 : Int)) : Rat) = 0 := rfl
theorem once_row (o : OnceOk n met led e) (x : Nat → Rat) {i : Nat} (hi : i < n) : (sumQ n fun c => (mxOf (onceRows n met led) c i : Rat) * x c) = (e : Rat) * x i - sumQ n fun c => x c * ((led.getD c []).getD i 0 : Rat) := by
  have q3 : (sumQ n fun c => (mxOf (onceRows n met led) c i : Rat) * x c) = (sumQ n fun c => (if c = i then (e : Rat) * x i else 0)) + sumQ n fun c => (-1) * (x c * ((led.getD c []).getD i 0 : Rat)) := by
    rw [← sumQ_add]
    refine sumQ_congr fun c hc => ?_
    rw [once_at o hi hc, Rat.intCast_sub, Rat.intCast_mul]
    by_cases z : c = i
    · subst z
      rw [if_pos rfl, if_pos rfl, castI, castI, castOne]
      grind
    · rw [if_neg z, if_neg z, castI, castI, castZero]
      grind
  rw [q3, sumQ_mul, sumQ_one hi fun c hc hne => if_neg hne, if_pos rfl]
  grind
theorem once_ker (o : OnceOk n met led e) (x : Nat → Int) (h : ∀ i, i < n → (sumN n fun c => mxOf (onceRows n met led) c i * x c) = 0) : ∀ c, c < n → x c = 0 := by
  have h1 : ∀ i, i < n → (e : Rat) * (x i : Rat) = sumQ n fun c => (x c : Rat) * ((led.getD c []).getD i 0 : Rat) := fun i hi => by
    have q2 : (sumQ n fun c => ((mxOf (onceRows n met led) c i * x c : Int) : Rat)) = 0 := by rw [sumQ_int, h i hi]; rfl
    have q3 : (sumQ n fun c => ((mxOf (onceRows n met led) c i * x c : Int) : Rat)) = sumQ n fun c => (mxOf (onceRows n met led) c i : Rat) * (x c : Rat) := sumQ_congr fun c _ => Rat.intCast_mul _ _
    rw [q3, once_row o (fun c => (x c : Rat)) hi] at q2
    grind
  have h2 : ∀ i, i < n → absQ (x i : Rat) * (e : Rat) ≤ sumQ n fun c => absQ (x c : Rat) * ((led.getD c []).getD i 0 : Rat) := fun i hi => by
    rw [← absQ_mul (cast_nonneg e), Rat.mul_comm, h1 i hi]
    have := absQ_sum (fun c => (x c : Rat) * ((led.getD c []).getD i 0 : Rat)) n
    rw [sumQ_congr (g := fun c => absQ (x c : Rat) * ((led.getD c []).getD i 0 : Rat)) fun c _ => absQ_mul (cast_nonneg _)] at this
    exact this
  have h3 : (sumQ n fun i => absQ (x i : Rat) * (e : Rat)) ≤ sumQ n fun i => sumQ n fun c => absQ (x c : Rat) * ((led.getD c []).getD i 0 : Rat) := sumQ_le fun i hi => h2 i hi
  rw [sumQ_comm] at h3
  have h4 : (sumQ n fun c => sumQ n fun i => absQ (x c : Rat) * ((led.getD c []).getD i 0 : Rat)) = sumQ n fun c => ((e : Rat) - (met.sum : Rat)) * absQ (x c : Rat) := sumQ_congr fun c hc => by
    rw [sumQ_mul, row_sumQ (o.lr c hc), sum_split _ _ _ (o.sum c hc)]
    grind
  rw [h4, sumQ_mul] at h3
  have h5 : (sumQ n fun i => absQ (x i : Rat) * (e : Rat)) = (e : Rat) * sumQ n fun i => absQ (x i : Rat) := by
    rw [← sumQ_mul]
    exact sumQ_congr fun i _ => Rat.mul_comm _ _
  rw [h5] at h3
  have h0 : 0 ≤ sumQ n fun i => absQ (x i : Rat) := sumQ_nonneg fun i _ => absQ_nonneg _
  have hm : (0 : Rat) < (met.sum : Rat) := cast_pos o.pos
  intro c hc
  have hz : absQ (x c : Rat) = 0 := by
    have hn := absQ_nonneg (x c : Rat)
    by_cases q : 0 < absQ (x c : Rat)
    · have := sumQ_pos hc (fun i _ => absQ_nonneg (x i : Rat)) q
      have := Rat.mul_pos hm this
      grind
    · grind
  have hx : (x c : Rat) = 0 := by
    have a1 := absQ_ge (x c : Rat)
    have a2 := absQ_ge' (x c : Rat)
    grind
  exact Rat.intCast_inj.mp (hx.trans castZero.symm)
theorem once_solv (o : OnceOk n met led e) {M : Nat} (hn : n ≤ 1000) (h1 : 1 ≤ M) (hM : e ≤ M) (hb : n ^ n * M ^ n < 2 ^ 4000) : Solv (onceRows n met led) (n + 1) M where
  wide := fun r hr => once_wide hr
  le := by rw [once_len]; exact Nat.le_succ n
  few := by rw [once_len]; exact hn
  wfew := by omega
  one := h1
  small := fun j i hj hi => by
    rw [once_len] at hi
    by_cases q : j < n
    · rw [once_at o hi q]
      have := led_le o hi q
      by_cases z : j = i
      · rw [if_pos z]; omega
      · rw [if_neg z]; omega
    · have : j = n := by omega
      subst this
      rw [once_last hi]
      have := met_le o hi
      omega
  bits := by rw [once_len]; exact hb
  ker := fun x h => by
    rw [once_len] at h ⊢
    exact once_ker o x h
/-- the shares, one for each place -/
noncomputable def onceX (n : Nat) (met : List Nat) (led : List (List Nat)) (i : Nat) : Rat := ((solR (onceRows n met led) (n + 1)).getD i []).getD 0 0
/-- by how many words each place leads to each -/
def onceP (met : List Nat) (led : List (List Nat)) (j i : Nat) : Nat := (led.getD j []).getD i 0 + met.getD i 0
theorem cast_add (a b : Nat) : ((a + b : Nat) : Rat) = (a : Rat) + (b : Rat) := by
  have := Rat.intCast_add (a : Int) (b : Int)
  rw [← Int.natCast_add] at this
  exact this
theorem once_eq (o : OnceOk n met led e) {i : Nat} {M : Nat} (s : Solv (onceRows n met led) (n + 1) M) (hi : i < n) : (e : Rat) * onceX n met led i - (sumQ n fun c => onceX n met led c * ((led.getD c []).getD i 0 : Rat)) = (met.getD i 0 : Rat) := by
  have := (solR_sol s).2.2 i 0 (by rw [once_len]; exact hi) (by rw [once_len]; omega)
  rw [once_len] at this
  have e2 : mxOf (onceRows n met led) (n + 0) i = (met.getD i 0 : Int) := once_last hi
  rw [e2] at this
  rw [← once_row o (onceX n met led) hi]
  exact this
theorem once_one (o : OnceOk n met led e) {M : Nat} (s : Solv (onceRows n met led) (n + 1) M) : sumQ n (onceX n met led) = 1 := by
  have h : (sumQ n fun i => (e : Rat) * onceX n met led i + (-1) * sumQ n fun c => onceX n met led c * ((led.getD c []).getD i 0 : Rat)) = sumQ n fun i => (met.getD i 0 : Rat) := sumQ_congr fun i hi => by
    rw [← once_eq o s hi]; grind
  rw [sumQ_add, sumQ_mul, sumQ_mul, sumQ_comm, row_sumQ o.ml] at h
  have h4 : (sumQ n fun c => sumQ n fun i => onceX n met led c * ((led.getD c []).getD i 0 : Rat)) = sumQ n fun c => ((e : Rat) - (met.sum : Rat)) * onceX n met led c := sumQ_congr fun c hc => by
    rw [sumQ_mul, row_sumQ (o.lr c hc), sum_split _ _ _ (o.sum c hc)]
    grind
  rw [h4, sumQ_mul] at h
  have hm : (0 : Rat) < (met.sum : Rat) := cast_pos o.pos
  have : (met.sum : Rat) * (sumQ n (onceX n met led) - 1) = 0 := by
    have e1 : (sumQ n fun i => onceX n met led i) = sumQ n (onceX n met led) := rfl
    rw [e1] at h
    grind
  rcases Rat.mul_eq_zero.mp this with q | q
  · grind
  · grind
theorem once_stat (o : OnceOk n met led e) {M : Nat} (s : Solv (onceRows n met led) (n + 1) M) : Stat n (onceP met led) e (onceX n met led) := fun i hi => by
  have h := once_eq o s hi
  have h1 := once_one o s
  have : (sumQ n fun a => onceX n met led a * (onceP met led a i : Rat)) = (sumQ n fun c => onceX n met led c * ((led.getD c []).getD i 0 : Rat)) + (met.getD i 0 : Rat) * sumQ n (onceX n met led) := by
    rw [← sumQ_mul, ← sumQ_add]
    refine sumQ_congr fun c _ => ?_
    unfold onceP
    rw [cast_add]
    grind
  rw [this, h1]
  grind
theorem once_char (o : OnceOk n met led e) {y : Nat → Rat} (h1 : sumQ n y = 1) (hs : Stat n (onceP met led) e y) : ∀ i, i < n → onceX n met led i = y i := by
  have sol : IsSol (onceRows n met led) (n + 1) ((List.range n).map fun c => [y c]) := by
    refine ⟨by rw [List.length_map, List.length_range, once_len], fun r hr => ?_, fun i c hi hc => ?_⟩
    · obtain ⟨c, _, rfl⟩ := List.mem_map.mp hr
      rw [once_len]
      show 1 = _
      omega
    · rw [once_len] at hi hc ⊢
      have hc0 : c = 0 := by omega
      subst hc0
      rw [Nat.add_zero, once_last hi]
      rw [sumQ_congr (g := fun l => (mxOf (onceRows n met led) l i : Rat) * y l) fun l hl => by rw [getD_range hl]; rfl, once_row o y hi]
      have := hs i hi
      rw [sumQ_congr (g := fun c => y c * ((led.getD c []).getD i 0 : Rat) + (met.getD i 0 : Rat) * y c) fun c _ => by
        unfold onceP
        rw [cast_add]
        grind, sumQ_add, sumQ_mul] at this
      have e1 : (sumQ n fun i => y i) = sumQ n y := rfl
      rw [e1, h1] at this
      rw [castI]
      grind
  intro i hi
  unfold onceX
  rw [solR_eq (fun x h => by rw [once_len] at h ⊢; exact once_ker o x h) sol, getD_range hi]
  rfl
end
end El

set_option Elab.async false
set_option linter.all false
set_option maxRecDepth 100000
set_option maxHeartbeats 4000000
namespace El
open PySem PySem.Spec L2 PySem.SeqAt
open AutoSeq1 (wpAny_loadPart')
open MeetsSeq MeetsSeq2 MeetsSeq3
variable [LawTabs]
/-! ### [..] != [..], item by item by their own == -/
section
variable {prog : Program} {w : World} {A : Around} {R : Result → Shared → Prop}
theorem ne_loopN (l b : Addr) (N : Nat) (I : Nat → Shared → Prop) (hl : GQ.ListI prog w A (fun e s' => R (.error e) s') l b N I)
    (fin : ∀ s, I N s → R (.ok (.ret (.bool false))) s) (k : Nat) :
    ∀ i : Nat, N - i = k → i ≤ N → ∀ s, I i s →
      wpAny (model prog w) A.in1 (Builtin.«list.__eq__.loop» ⟨[.ref l, .ref b, rawInt i, rawInt 3], []⟩) (GQ.FinOf prog w A R) (fun e s' => R (.error e) s') s := by
  induction k with
  | zero =>
    intro i hk hi s h
    obtain ⟨items, items2, n, n2, hl1, hb1, hs1, hs2, _⟩ := hl _ _ h
    have hi' : i = N := by omega
    have hR : R (.ok (.ret (.bool false))) s := fin s (hi' ▸ h)
    obtain ⟨hp, g, d, tk, os⟩ := s
    wp_walk using wpAny_loadPart' hl1, wpAny_loadPart' hb1
    have hi1 : items[((i : Nat) : Int).toNat]? = none := by simp; omega
    have hi2 : items2[((i : Nat) : Int).toNat]? = none := by simp; omega
    rw [hi1, hi2]
    wp_walk using wpAny_loadPart' hl1, wpAny_loadPart' hb1
    show R (.ok (.ret (.bool (items.size != items2.size)))) _
    rw [hs1, hs2]
    simpa using hR
  | succ k ih =>
    intro i hk hi s h
    obtain ⟨items, items2, n, n2, hl1, hb1, hs1, hs2, turn⟩ := hl _ _ h
    have hlt : i < items.size := by omega
    have hlt2 : i < items2.size := by omega
    have ht := turn hlt hlt2
    obtain ⟨hp, g, d, tk, os⟩ := s
    wp_walk using wpAny_loadPart' hl1, wpAny_loadPart' hb1
    have hi1 : items[((i : Nat) : Int).toNat]? = some items[i] := by simp [hlt]
    have hi2 : items2[((i : Nat) : Int).toNat]? = some items2[i] := by simp [hlt2]
    have hc : ((i : Int) + 1) = ((i + 1 : Nat) : Int) := by omega
    rw [hi1, hi2]
    refine wpAny_bind (wpAny_mono ht (fun r s2 h2 => ?_) fun _ _ x => x)
    obtain ⟨hr, h2⟩ := h2
    subst hr
    have hrec := ih (i + 1) (by omega) (by omega) s2 h2
    obtain ⟨hp2, g2, d2, tk2, os2⟩ := s2
    wp_walk
    rw [hc]
    exact ⟨plainId_quiet plain_eq_loop _, codeAny_builtin entry_eq_loop (by
      rw [Around.under_plainId plain_eq_loop _]
      exact hrec)⟩
theorem list_neN (l b : Addr) (N : Nat) (I : Nat → Shared → Prop) (hl : GQ.ListI prog w A (fun e s' => R (.error e) s') l b N I)
    (fin : ∀ s, I N s → R (.ok (.ret (.bool false))) s) {s : Shared} (h : I 0 s) :
    wpAny (model prog w) A.in1 (Builtin.«list.__ne__» ⟨[.ref l, .ref b], []⟩) (GQ.FinOf prog w A R) (fun e s' => R (.error e) s') s := by
  obtain ⟨items, items2, n, n2, hl1, hb1, hs1, hs2, _⟩ := hl _ _ h
  have hrec := ne_loopN (A := A) (R := R) l b N I hl fin _ 0 rfl (Nat.zero_le _) s h
  obtain ⟨hp, g, d, tk, os⟩ := s
  have f3 := AutoSeq1.sub_list_list
  have hne : ¬ (items.size != items2.size) = true := by simp [hs1, hs2]
  wp_walk using wpAny_loadPart' hl1, wpAny_loadPart' hb1
  exact ⟨plainId_quiet plain_eq_loop _, codeAny_builtin entry_eq_loop (by
    rw [Around.under_plainId plain_eq_loop _]
    exact hrec)⟩
end
section
variable {prog : Program} {w : World} {A : Around} {E : Value → Shared → Prop} {s : Shared}
theorem rc_listN {l b : Addr} {N : Nat} {Q : Value → Shared → Prop} (hu : A.units < cLine) (I : Nat → Shared → Prop) (hl : GQ.ListI prog w A E l b N I)
    (fin : ∀ s, I N s → Q (.bool false) s) (h : I 0 s) : wpAny (model prog w) A (richCompare .NotEq (.ref l) (.ref b)) Q E s := by
  obtain ⟨items, items2, n, n2, hl1, hb1, _, _, _⟩ := hl _ _ h
  refine wpAny_richCompare_same_room (op := .NotEq) ⟨_, hl1, rfl⟩ ⟨_, hb1, rfl⟩ F.slot_list_ne (GQ.call_here F.slot_list_ne ⟨_, hl1, rfl⟩ F.entry_list_ne (F.args_list_ne_2 _ _) ?_) hu
  exact list_neN (R := wants (fun v s' => v ≠ .notImplemented ∧ Q v s') E) l b N I hl (fun s' q => ⟨(fun x => nomatch x), fin s' q⟩) h
end
def rNeO (K : PySem.W.Frag) (D : Eqv) : R2 := fun x y H Q => rNeD K x y H Q ∨ (DList D x y H ∧ ∀ H', Ext H H' → Q (.bl false) H')
theorem op_neO {X : Cx} {D : Eqv} {n : Nat} (hD : Mon D) (h : EqG X n D) (hr : Room (n + 1) X.A) (hu : X.A.units + 64 < cLine) : OpR X (compareOp .NotEq) (rNeO X.K D) := by
  intro pins s σ H x y v u Q I rx ry hq
  rcases hq with hq | ⟨⟨a, b, xs, ys, rfl, rfl, ha, hb, p⟩, q⟩
  · exact op_neD hu pins s σ H x y v u Q I rx ry hq
  · cases rx
    cases ry
    have sb : Sub X (n + 1) X.A := ⟨hr, rfl⟩
    show wpAny (model X.prog X.w) X.A (richCompare .NotEq (.ref a) (.ref b)) (EP X pins σ Q) X.xe s
    refine rc_listN (N := xs.length) hr.units0 (fun _ s' => LoopI X pins σ H s') (fun i s' q => ?_) (fun s' ⟨H', I', e⟩ => ⟨.bl false, H', I', rfl, q H' e⟩) ⟨H, I, Ext.rfl'⟩
    obtain ⟨H1, I1, e1⟩ := id q
    obtain ⟨z, its, k, r, e⟩ := I1.hok a _ (e1 _ _ ha)
    obtain ⟨z2, its2, k2, r2, e2⟩ := I1.hok b _ (e1 _ _ hb)
    refine ⟨its.toArray, its2.toArray, k, k2, e, e2, by rw [List.size_toArray, ← r.length], by rw [List.size_toArray, ← r2.length, ← p.1], fun h1 h2 => ?_⟩
    exact turnG hD h sb p r r2 i h1 h2 s' q
end El

set_option Elab.async false
set_option linter.all false
set_option maxRecDepth 100000
set_option maxHeartbeats 4000000
namespace El
open PySem PySem.Spec L2
variable [LawTabs]
/-! ### reading once, of turns -/
def mtT (t : Tn) (n : Nat) : List Nat := metL t.many (mcM t n)
def ldT (t : Tn) (n : Nat) : List (List Nat) := ledL t.many (mcM t n)
theorem b1 {p : Bool} : (if p = true then 1 else 0) = (if p = true then (1 : Nat) else 0) := rfl
theorem led_met {k j i : Nat} {m : List Nat} (hm : IsMap k m) (hj : j < k) : (if atP j i m = true then (1 : Nat) else 0) = ([ledP j i, metP i].map fun q => if q m = true then 1 else 0).sum := by
  show _ = (if ledP j i m = true then 1 else 0) + ((if metP i m = true then 1 else 0) + 0)
  unfold atP ledP metP
  cases q : metB m with
  | false =>
    rw [Bool.not_false, Bool.true_and, Bool.false_and]
    rfl
  | true =>
    have e : m.headD 0 = m.getD j 0 := by
      have h1 := head_mem (l := m) (d := 0) (by intro z; rw [z] at hm; have := hm.1; simp at this; omega)
      exact metB_eq q h1 (List.mem_of_getElem? (at_getD (by rw [hm.1]; exact hj)))
    rw [Bool.not_true, Bool.false_and, Bool.true_and, e]
    show _ = 0 + _
    omega
theorem p_qN {t : Tn} {n j i : Nat} (hj : j < t.many) (hi : i < t.many) : onceP (mtT t n) (ldT t n) j i = qN t.maps t.many n j i := by
  unfold onceP mtT ldT ledL metL
  rw [getD_range hj, getD_range hi]
  unfold ledR
  rw [getD_range hi, tot_mc, tot_mc]
  unfold qN
  rw [numW_parts (k := t.many) (xs := [ledP j i, metP i]) (q := fun q => q) (isMap_id _) (fun s hs => t.h4 s hs) fun m h' => led_met h' hj]
  rfl
theorem q_row {maps : List (List Nat)} {k n j : Nat} (hm : ∀ s ∈ maps, IsMap k s) (hj : j < k) : ((List.range k).map fun i => qN maps k n j i).sum = maps.length ^ n := by
  rw [← numW_true (maps := maps) (b := idMap k) (n := n)]
  refine (numW_parts (k := k) (xs := List.range k) (q := fun i m => atP j i m) (isMap_id _) hm fun m h' => ?_).symm
  rw [if_pos rfl]
  have := sum_one (List.nodup_range (n := k)) (List.mem_range.mpr (map_ltD h' hj)) fun _ => 1
  refine this.symm.trans (sum_congr fun i _ => ?_)
  unfold atP
  by_cases e : m.getD j 0 = i
  · rw [if_pos e, if_pos (decide_eq_true e)]
  · rw [if_neg e, if_neg (by rw [decide_eq_false e]; exact Bool.false_ne_true)]
theorem sum_add2 {α : Type} (f g : α → Nat) : ∀ xs : List α, (xs.map f).sum + (xs.map g).sum = (xs.map fun x => f x + g x).sum
  | [] => rfl
  | x :: xs => by
    have := sum_add2 f g xs
    rw [List.map_cons, List.map_cons, List.map_cons, List.sum_cons, List.sum_cons, List.sum_cons]
    omega
theorem once_ok {t : Tn} {n : Nat} (h : (mtT t n).sum ≠ 0) : OnceOk t.many (mtT t n) (ldT t n) (t.maps.length ^ n) where
  n0 := t.h0
  ml := by unfold mtT metL; rw [List.length_map, List.length_range]
  ll := by unfold ldT ledL; rw [List.length_map, List.length_range]
  lr := fun j hj => by unfold ldT ledL; rw [getD_range hj]; unfold ledR; rw [List.length_map, List.length_range]
  sum := fun j hj => by
    rw [← q_row (n := n) (fun s hs => t.h4 s hs) hj]
    have e1 : (ldT t n).getD j [] = (List.range t.many).map fun i => tot (mcM t n) (ledP j i) := by unfold ldT ledL; rw [getD_range hj]; rfl
    rw [e1]
    show ((List.range t.many).map fun i => tot (mcM t n) (metP i)).sum + _ = _
    rw [sum_add2]
    refine sum_congr fun i hi => ?_
    have hi := List.mem_range.mp hi
    rw [← p_qN hj hi]
    unfold onceP
    rw [e1, getD_range hi, show mtT t n = (List.range t.many).map fun i => tot (mcM t n) (metP i) from rfl, getD_range hi]
    omega
  pos := by omega
/-! steps, one sign at a time -/
def actQ (maps : List (List Nat)) (k : Nat) (x : Nat → Rat) (i : Nat) : Rat := sumQ k fun a => x a * (cntS1 maps a i : Rat)
def actN (maps : List (List Nat)) (k : Nat) : Nat → (Nat → Rat) → (Nat → Rat)
  | 0, x => x
  | n + 1, x => actQ maps k (actN maps k n x)
theorem cast_rsum (f : Nat → Nat) : ∀ k : Nat, ((((List.range k).map f).sum : Nat) : Rat) = sumQ k fun b => (f b : Rat)
  | 0 => rfl
  | k + 1 => by
    rw [List.range_succ, List.map_append, List.sum_append, cast_add, cast_rsum f k]
    show _ + (((f k + 0 : Nat)) : Rat) = _
    rw [Nat.add_zero]
    rfl
theorem cast_mul (a b : Nat) : ((a * b : Nat) : Rat) = (a : Rat) * (b : Rat) := by
  have := Rat.intCast_mul (a : Int) (b : Int)
  rw [← Int.natCast_mul] at this
  exact this
theorem act_q {maps : List (List Nat)} {k : Nat} (hm : ∀ s ∈ maps, IsMap k s) (x : Nat → Rat) : ∀ {n i : Nat}, i < k → (sumQ k fun a => x a * (qN maps k n a i : Rat)) = actN maps k n x i
  | 0, i, hi => by
    rw [sumQ_congr (g := fun a => if a = i then x i else 0) fun a ha => by
      rw [qN_zero ha]
      by_cases e : a = i
      · rw [if_pos e, if_pos e, e]
        show x i * 1 = _
        grind
      · rw [if_neg e, if_neg e]
        show x a * 0 = _
        grind, sumQ_one hi fun a _ hne => if_neg hne, if_pos rfl]
    rfl
  | n + 1, i, hi => by
    have e1 : (sumQ k fun a => x a * (qN maps k (n + 1) a i : Rat)) = sumQ k fun a => sumQ k fun b => (x a * (qN maps k n a b : Rat)) * (cntS1 maps b i : Rat) := sumQ_congr fun a ha => by
      rw [qN_succ hm ha, cast_rsum, ← sumQ_mul]
      refine sumQ_congr fun b _ => ?_
      rw [cast_mul]
      grind
    rw [e1, sumQ_comm]
    show _ = sumQ k fun b => actN maps k n x b * (cntS1 maps b i : Rat)
    refine sumQ_congr fun b hb => ?_
    rw [← act_q hm x hb]
    rw [sumQ_congr (g := fun a => (cntS1 maps b i : Rat) * (x a * (qN maps k n a b : Rat))) fun a _ => Rat.mul_comm _ _, sumQ_mul, Rat.mul_comm]
theorem act_congr {maps : List (List Nat)} {k : Nat} {x y : Nat → Rat} (h : ∀ a, a < k → x a = y a) (i : Nat) : actQ maps k x i = actQ maps k y i := sumQ_congr fun a ha => by rw [h a ha]
theorem actN_congr {maps : List (List Nat)} {k : Nat} {x y : Nat → Rat} (h : ∀ a, a < k → x a = y a) : ∀ {n i : Nat}, i < k → actN maps k n x i = actN maps k n y i
  | 0, i, hi => h i hi
  | n + 1, i, hi => act_congr (fun a ha => actN_congr h ha) i
theorem act_mul {maps : List (List Nat)} {k : Nat} (c : Rat) (x : Nat → Rat) (i : Nat) : actQ maps k (fun a => c * x a) i = c * actQ maps k x i := by
  unfold actQ
  rw [← sumQ_mul]
  exact sumQ_congr fun a _ => Rat.mul_assoc _ _ _
theorem actN_mul {maps : List (List Nat)} {k : Nat} (c : Rat) (x : Nat → Rat) : ∀ {n i : Nat}, actN maps k n (fun a => c * x a) i = c * actN maps k n x i
  | 0, _ => rfl
  | n + 1, i => by
    show actQ maps k (actN maps k n fun a => c * x a) i = c * actQ maps k (actN maps k n x) i
    rw [← act_mul]
    exact act_congr (fun a _ => actN_mul c x) i
theorem actN_swap {maps : List (List Nat)} {k : Nat} (x : Nat → Rat) : ∀ {n : Nat}, actN maps k n (actQ maps k x) = actQ maps k (actN maps k n x)
  | 0 => rfl
  | n + 1 => by
    show actQ maps k (actN maps k n (actQ maps k x)) = _
    rw [actN_swap x]
    rfl
theorem cnt_row {maps : List (List Nat)} {k a : Nat} (hm : ∀ s ∈ maps, IsMap k s) (ha : a < k) : ((List.range k).map fun i => cntS1 maps a i).sum = maps.length := by
  unfold cntS1
  rw [sum_swap]
  have : ∀ s ∈ maps, ((List.range k).map fun i => if s.getD a 0 = i then 1 else 0).sum = 1 := fun s hs => sum_one (List.nodup_range (n := k)) (List.mem_range.mpr (map_ltD (hm s hs) ha)) fun _ => 1
  rw [sum_congr this]
  clear this hm
  induction maps with
  | nil => rfl
  | cons s l ih => rw [List.map_cons, List.sum_cons, ih, List.length_cons]; omega
theorem act_sum {maps : List (List Nat)} {k : Nat} (hm : ∀ s ∈ maps, IsMap k s) (x : Nat → Rat) : sumQ k (actQ maps k x) = (maps.length : Rat) * sumQ k x := by
  show (sumQ k fun i => sumQ k fun a => x a * (cntS1 maps a i : Rat)) = _
  rw [sumQ_comm, ← sumQ_mul]
  refine sumQ_congr fun a ha => ?_
  rw [sumQ_mul, ← cast_rsum, cnt_row hm ha, Rat.mul_comm]
theorem cast_pow (a : Nat) : ∀ n : Nat, ((a ^ (n + 1) : Nat) : Rat) = (a : Rat) * ((a ^ n : Nat) : Rat) := fun n => by rw [Nat.pow_succ, cast_mul, Rat.mul_comm]
theorem actN_eig {maps : List (List Nat)} {k : Nat} {x : Nat → Rat} {s : Nat} (h : ∀ i, i < k → actQ maps k x i = (s : Rat) * x i) : ∀ {n i : Nat}, i < k → actN maps k n x i = ((s ^ n : Nat) : Rat) * x i
  | 0, i, _ => by
    show x i = (1 : Rat) * x i
    grind
  | n + 1, i, hi => by
    show actQ maps k (actN maps k n x) i = _
    rw [act_congr (y := fun a => ((s ^ n : Nat) : Rat) * x a) (fun a ha => actN_eig h ha) i, act_mul, h i hi, cast_pow]
    grind
noncomputable def onceXT (t : Tn) (n : Nat) : Nat → Rat := onceX t.many (mtT t n) (ldT t n)
noncomputable def onceV (t : Tn) (n : Nat) : List Rat := (List.range t.many).map (onceXT t n)
theorem once_solvT {t : Tn} {n M : Nat} (h : (mtT t n).sum ≠ 0) (h1 : 1 ≤ M) (hM : t.maps.length ^ n ≤ M) (hb : t.many ^ t.many * M ^ t.many < 2 ^ 4000) : Solv (onceRows t.many (mtT t n) (ldT t n)) (t.many + 1) M := once_solv (once_ok h) (by have := t.h1; omega) h1 hM hb
/-- where reading once ends, the walk of single signs rests -/
theorem once_rest {t : Tn} {n M : Nat} (h : (mtT t n).sum ≠ 0) (s : Solv (onceRows t.many (mtT t n) (ldT t n)) (t.many + 1) M) : sumQ t.many (onceXT t n) = 1 ∧ ∀ i, i < t.many → actQ t.maps t.many (onceXT t n) i = (t.maps.length : Rat) * onceXT t n i := by
  have o := once_ok h
  have h1 : sumQ t.many (onceXT t n) = 1 := once_one o s
  have hs : Stat t.many (onceP (mtT t n) (ldT t n)) (t.maps.length ^ n) (onceXT t n) := once_stat o s
  have hm : ∀ s ∈ t.maps, IsMap t.many s := fun s hs => t.h4 s hs
  have hp : ∀ i, i < t.many → actN t.maps t.many n (onceXT t n) i = ((t.maps.length ^ n : Nat) : Rat) * onceXT t n i := fun i hi => by
    rw [← hs i hi, ← act_q hm _ hi]
    exact sumQ_congr fun a ha => by rw [p_qN ha hi]
  have h2 := t.h2
  have sp : (0 : Rat) < (t.maps.length : Rat) := cast_pos h2
  have s0 : (t.maps.length : Rat) ≠ 0 := by grind
  let c : Rat := (t.maps.length : Rat)⁻¹
  have hc : c * (t.maps.length : Rat) = 1 := Rat.inv_mul_cancel _ s0
  let z : Nat → Rat := fun i => c * actQ t.maps t.many (onceXT t n) i
  have z1 : sumQ t.many z = 1 := by
    show (sumQ t.many fun i => c * actQ t.maps t.many (onceXT t n) i) = 1
    rw [sumQ_mul]
    have e1 : (sumQ t.many fun i => actQ t.maps t.many (onceXT t n) i) = sumQ t.many (actQ t.maps t.many (onceXT t n)) := rfl
    rw [e1, act_sum hm, h1]
    grind
  have zs : Stat t.many (onceP (mtT t n) (ldT t n)) (t.maps.length ^ n) z := fun i hi => by
    rw [sumQ_congr (g := fun a => z a * (qN t.maps t.many n a i : Rat)) fun a ha => by rw [p_qN ha hi], act_q hm _ hi]
    show actN t.maps t.many n (fun i => c * actQ t.maps t.many (onceXT t n) i) i = _
    rw [actN_mul, actN_swap]
    show c * actQ t.maps t.many (actN t.maps t.many n (onceXT t n)) i = _
    rw [act_congr (y := fun a => ((t.maps.length ^ n : Nat) : Rat) * onceXT t n a) hp i, act_mul]
    show _ = ((t.maps.length ^ n : Nat) : Rat) * (c * actQ t.maps t.many (onceXT t n) i)
    grind
  refine ⟨h1, fun i hi => ?_⟩
  have := once_char o z1 zs i hi
  have e : onceXT t n i = c * actQ t.maps t.many (onceXT t n) i := this
  rw [e]
  grind
/-- a row that rests for single signs is where reading once ends -/
theorem once_of_rest {t : Tn} {n : Nat} (h : (mtT t n).sum ≠ 0) {y : Nat → Rat} (h1 : sumQ t.many y = 1) (hy : ∀ i, i < t.many → actQ t.maps t.many y i = (t.maps.length : Rat) * y i) : onceV t n = (List.range t.many).map y := by
  have o := once_ok h
  have hm : ∀ s ∈ t.maps, IsMap t.many s := fun s hs => t.h4 s hs
  unfold onceV
  refine List.map_congr_left fun i hi => ?_
  have hi := List.mem_range.mp hi
  exact once_char o h1 (fun i hi => by
    rw [sumQ_congr (g := fun a => y a * (qN t.maps t.many n a i : Rat)) fun a ha => by rw [p_qN ha hi], act_q hm _ hi]
    exact actN_eig hy hi) i hi
end El

set_option Elab.async false
set_option linter.all false
set_option maxRecDepth 100000
set_option maxHeartbeats 4000000
namespace El
open PySem PySem.Spec L2
variable [LawTabs]
def SpOnce (C CS CM CN : Addr) : Sp := fun vs H Q E => ∃ (F : Hp) (v : V) (t : Tn) (n M : Nat), vs = [v, .int (n : Int)] ∧ ExT F H ∧ rTurns C F v t ∧ n ≤ 1000 ∧ 1 ≤ M ∧ t.maps.length ^ n ≤ M ∧ t.many ^ t.many * M ^ t.many < 2 ^ 4000 ∧
  (∀ xs, mapsM t = some xs → (mtT t n).sum ≠ 0 → ∀ w F' H', Gr M0 F H F' H' → rLst (rShare CS) F' w (onceV t n) → Q w H') ∧
  (∀ xs, mapsM t = some xs → (mtT t n).sum = 0 → ∀ v d F' H', Gr M0 F H F' H' → rNon F' v () → H' d = none → E (.ref CN) (some d) (upd H' d (.xd [(("pair" : Str), v)]))) ∧
  (mapsM t = none → ∀ F' H', Gr M0 F H F' H' → E (.ref CM) none H')
instance {a b c d : Addr} : SpLen (SpOnce a b c d) 2 := ⟨fun ⟨_, _, _, _, _, h, _⟩ => by rw [h]; rfl⟩
theorem rshr_mono {C : Addr} (a b : Addr) (H H' : Hp) (x : Ext H H') (r : RShr C a b H) : RShr C a b H' := by
  obtain ⟨F, q, e, r1, r2⟩ := r
  have g := Gr.ext e x
  exact ⟨_, q, g.fh, Mn.mono g.ff r1, Mn.mono g.ff r2⟩
theorem mon_shr {C : Addr} : Mon (DIns C (RShr C)) := mon_ins fun a b H H' x r => rshr_mono a b H H' x r
section
variable {K : PySem.W.Frag} {σ : St} {F H F' H' : Hp} {ta tb : TE} {C : Addr}
/-- what two lists of shares tell that are the same, or None -/
theorem ev_neShares {o : Option (List Rat)} (ha : Ev (rOpt (rLst (rShare C))) ta σ F H o) (hb : Ev (rOpt (rLst (rShare C))) tb σ F H o) : Ev rBl (tOp (rNeO K (DIns C (RShr C))) ta tb) σ F H false := fun F1 H1 g1 Q q =>
  ha F1 H1 g1 _ fun v F2 H2 g2 r1 => hb F2 H2 (g1.trans g2) _ fun w F3 H3 g3 r2 => by
    have r' := Mn.mono g3.ff r1
    cases o with
    | none =>
      cases (show v = _ from r')
      cases (show w = _ from r2)
      exact .inl ⟨.none, .none, .non, .non, rfl, rfl, q _ F3 H3 (g2.trans g3) rfl⟩
    | some xs =>
      obtain ⟨a, vs, rfl, h1, p1⟩ := (show rLst (rShare C) F3 v xs from r')
      obtain ⟨b, ws, rfl, h2, p2⟩ := (show rLst (rShare C) F3 w xs from r2)
      refine .inr ⟨⟨a, b, vs, ws, rfl, rfl, g3.fh _ _ h1, g3.fh _ _ h2, by rw [p1.length, p2.length], fun i x y hx hy => ?_⟩, fun H' x => q _ _ H' ((g2.trans g3).trans (Gr.ext g3.fh x)) rfl⟩
      obtain ⟨z, hz, s1⟩ := Paired.getL p1 hx
      obtain ⟨z2, hz2, s2⟩ := Paired.getL p2 hy
      rw [hz] at hz2
      cases hz2
      have s1' := s1
      have s2' := s2
      obtain ⟨a', dx, rfl, k1⟩ := s1'
      obtain ⟨b', dy, rfl, k2⟩ := s2'
      exact ⟨a', b', dx, dy, _, _, rfl, rfl, g3.fh _ _ k1, g3.fh _ _ k2, F3, z, g3.fh, s1, s2⟩
end
end El

set_option Elab.async false
set_option linter.all false
set_option maxRecDepth 100000
set_option maxHeartbeats 4000000
namespace El
open PySem PySem.Spec L2
variable [LawTabs]
/-! ### reading once, by the maps of blocks -/
def roB : List (List Nat) → Nat → Option Nat → Option (Nat × Nat)
  | [], _, _ => none
  | m :: ms, k, none => roB ms (k + 1) (plc m)
  | m :: ms, k, some s => if metB m = true then some (s, k + 1) else roB ms (k + 1) (some (m.getD s 0))
theorem roLoop_B {t : Tn} {L : Nat} {w : List Nat} : ∀ {n k : Nat} {st : Option Nat}, roLoop t L w n k st = roB ((List.range n).map fun j => mapW t ((w.drop ((k + j) * L)).take L)) k st
  | 0, _, _ => by rfl
  | n + 1, k, none => by
    rw [List.range_succ_eq_map, List.map_cons, List.map_map]
    show roLoop t L w n (k + 1) _ = roB _ (k + 1) _
    rw [roLoop_B, Nat.add_zero]
    congr 1
    refine List.map_congr_left fun j _ => ?_
    show _ = mapW t ((w.drop ((k + (j + 1)) * L)).take L)
    rw [show k + 1 + j = k + (j + 1) by omega]
  | n + 1, k, some s => by
    rw [List.range_succ_eq_map, List.map_cons, List.map_map]
    show (if metB (mapW t ((w.drop (k * L)).take L)) = true then some (s, k + 1) else roLoop t L w n (k + 1) (some ((mapW t ((w.drop (k * L)).take L)).getD s 0))) = (if metB (mapW t ((w.drop (k * L)).take L)) = true then some (s, k + 1) else roB _ (k + 1) (some ((mapW t ((w.drop (k * L)).take L)).getD s 0)))
    by_cases q : metB (mapW t ((w.drop (k * L)).take L)) = true
    · rw [if_pos q, if_pos q]
    · rw [if_neg q, if_neg q, roLoop_B]
      congr 1
      refine List.map_congr_left fun j _ => ?_
      show _ = mapW t ((w.drop ((k + (j + 1)) * L)).take L)
      rw [show k + 1 + j = k + (j + 1) by omega]
theorem flat_len {L : Nat} : ∀ {cs : List (List Nat)}, (∀ c ∈ cs, c.length = L) → cs.flatten.length = cs.length * L
  | [], _ => by rw [List.length_nil, Nat.zero_mul]; rfl
  | c :: cs, h => by
    rw [List.flatten_cons, List.length_append, h c List.mem_cons_self, flat_len fun d hd => h d (List.mem_cons_of_mem _ hd), List.length_cons, Nat.succ_mul]
    omega
theorem flat_chunk {L : Nat} : ∀ {cs : List (List Nat)} {j : Nat}, (∀ c ∈ cs, c.length = L) → j < cs.length → (cs.flatten.drop (j * L)).take L = cs.getD j []
  | [], j, _, hj => absurd hj (Nat.not_lt_zero j)
  | c :: cs, 0, h, _ => by
    rw [Nat.zero_mul, List.drop_zero, List.flatten_cons]
    have := h c List.mem_cons_self
    rw [List.take_append_of_le_length (by omega), List.take_of_length_le (by omega)]
    rfl
  | c :: cs, j + 1, h, hj => by
    have := h c List.mem_cons_self
    rw [List.flatten_cons, show (j + 1) * L = c.length + j * L by rw [Nat.succ_mul, this]; omega, List.drop_append, List.drop_of_length_le (by omega), List.nil_append]
    rw [show c.length + j * L - c.length = j * L by omega, flat_chunk (fun d hd => h d (List.mem_cons_of_mem _ hd)) (by rw [List.length_cons] at hj; omega)]
    rfl
theorem once_flat {t : Tn} {L : Nat} {cs : List (List Nat)} (hL : 1 ≤ L) (h : ∀ c ∈ cs, c.length = L) : readOnceM t L cs.flatten = roB (cs.map (mapW t)) 0 none := by
  unfold readOnceM
  rw [flat_len h, Nat.mul_div_cancel _ (by omega), roLoop_B]
  congr 1
  refine List.ext_getElem (by rw [List.length_map, List.length_map, List.length_range]) fun i h1 h2 => ?_
  rw [List.length_map] at h2
  rw [List.getElem_map, List.getElem_map, List.getElem_range, Nat.zero_add, flat_chunk h h2, List.getD_eq_getElem?_getD, List.getElem?_eq_getElem h2]
  rfl
/-- what is read with idle blocks between, beside what is read without -/
def RoRel : Option (Nat × Nat) → Option (Nat × Nat) → Prop
  | none, none => True
  | some p, some q => q.1 = p.1 ∧ p.2 ≤ q.2
  | _, _ => False
theorem roB_idle {k : Nat} (hk : 2 ≤ k) : ∀ {d : Nat} {ms : List (List Nat)} {i : Nat} {st : Option Nat}, (∀ s, st = some s → s < k) → roB (List.replicate d (idMap k) ++ ms) i st = roB ms (i + d) st
  | 0, ms, i, st, _ => by rfl
  | d + 1, ms, i, st, h => by
    have hm : metB (idMap k) = false := by
      cases q : metB (idMap k) with
      | false => rfl
      | true =>
        have h0 : (0 : Nat) ∈ idMap k := by unfold idMap; exact List.mem_range.mpr (by omega)
        have h1 : (1 : Nat) ∈ idMap k := by unfold idMap; exact List.mem_range.mpr (by omega)
        exact absurd (metB_eq q h0 h1) (by decide)
    rw [List.replicate_succ, List.cons_append]
    cases st with
    | none =>
      show roB _ (i + 1) (plc (idMap k)) = _
      unfold plc
      rw [hm]
      show roB _ (i + 1) none = _
      rw [roB_idle hk (st := none) (fun s h => nomatch h), show i + 1 + d = i + (d + 1) by omega]
    | some s =>
      have hs := h s rfl
      show (if metB (idMap k) = true then some (s, i + 1) else roB _ (i + 1) (some ((idMap k).getD s 0))) = _
      rw [hm, if_neg Bool.false_ne_true]
      rw [show (idMap k).getD s 0 = s from getD_eq (by unfold idMap; exact List.getElem?_range hs)]
      rw [roB_idle hk (fun z hz => by rw [← Option.some.inj hz]; exact hs), show i + 1 + d = i + (d + 1) by omega]
/-- blocks, each with so many idle ones ahead of it -/
def bldZ {α : Type} (z : α) (ps : List (Nat × α)) : List α := ps.flatMap fun p => List.replicate p.1 z ++ [p.2]
theorem roB_bld {k : Nat} (hk : 2 ≤ k) : ∀ {ps : List (Nat × List Nat)} {i j : Nat} {st : Option Nat}, (∀ p ∈ ps, IsMap k p.2) → (∀ s, st = some s → s < k) → i ≤ j → RoRel (roB (ps.map (·.2)) i st) (roB (bldZ (idMap k) ps) j st)
  | [], i, j, st, _, _, _ => True.intro
  | p :: ps, i, j, st, hp, hs, hij => by
    have e : bldZ (idMap k) (p :: ps) = List.replicate p.1 (idMap k) ++ (p.2 :: bldZ (idMap k) ps) := by
      unfold bldZ
      rw [List.flatMap_cons, List.append_assoc]
      rfl
    have hm := hp p List.mem_cons_self
    rw [e, roB_idle hk hs, List.map_cons]
    cases st with
    | none =>
      show RoRel (roB (ps.map (·.2)) (i + 1) (plc p.2)) (roB (bldZ (idMap k) ps) (j + p.1 + 1) (plc p.2))
      refine roB_bld hk (fun q hq => hp q (List.mem_cons_of_mem _ hq)) (fun s h => ?_) (by omega)
      unfold plc at h
      split at h
      · cases h; exact headD_lt hm (by omega)
      · cases h
    | some s =>
      have hsk := hs s rfl
      show RoRel (if metB p.2 = true then some (s, i + 1) else roB (ps.map (·.2)) (i + 1) (some (p.2.getD s 0))) (if metB p.2 = true then some (s, j + p.1 + 1) else roB (bldZ (idMap k) ps) (j + p.1 + 1) (some (p.2.getD s 0)))
      split
      · exact ⟨rfl, by show i + 1 ≤ j + p.1 + 1; omega⟩
      · exact roB_bld hk (fun q hq => hp q (List.mem_cons_of_mem _ hq)) (fun z hz => by rw [← Option.some.inj hz]; exact map_ltD hm hsk) (by omega)
/-- the turns with a sign more that leads each place to itself -/
def idleT (t : Tn) (h : t.maps.length ≤ 100) : Tn := ⟨t.many, t.maps ++ [idMap t.many], t.h0, t.h1, by rw [List.length_append]; exact Nat.le_add_left _ _, by rw [List.length_append]; show _ + 1 ≤ _; omega, fun m hm => by
  rcases List.mem_append.mp hm with q | q
  · exact t.h4 m q
  · rw [List.mem_singleton.mp q]; exact isMap_id _⟩
theorem idle_map {t : Tn} {h : t.maps.length ≤ 100} {w : List Nat} (hw : ∀ s ∈ w, s < t.maps.length) : mapW (idleT t h) w = mapW t w := by
  have : ∀ (w : List Nat) (m : List Nat), (∀ s ∈ w, s < t.maps.length) → mapFrom (idleT t h) m w = mapFrom t m w := by
    intro w
    induction w with
    | nil => exact fun m _ => rfl
    | cons s w ih =>
      intro m hw
      have hs := hw s List.mem_cons_self
      show mapFrom (idleT t h) (thenM m ((t.maps ++ [idMap t.many]).getD s [])) w = mapFrom t (thenM m (t.maps.getD s [])) w
      rw [show (t.maps ++ [idMap t.many]).getD s [] = t.maps.getD s [] by rw [List.getD_eq_getElem?_getD, List.getElem?_append_left hs, ← List.getD_eq_getElem?_getD]]
      exact ih _ fun z hz => hw z (List.mem_cons_of_mem _ hz)
  exact this w _ hw
theorem idle_id {t : Tn} {h : t.maps.length ≤ 100} : ∀ L : Nat, mapW (idleT t h) (List.replicate L t.maps.length) = idMap t.many
  | 0 => rfl
  | L + 1 => by
    rw [show List.replicate (L + 1) t.maps.length = List.replicate L t.maps.length ++ [t.maps.length] from List.replicate_succ' .., mapW_snoc, idle_id L]
    show thenM _ ((t.maps ++ [idMap t.many]).getD t.maps.length []) = _
    rw [show (t.maps ++ [idMap t.many]).getD t.maps.length [] = idMap t.many from getD_eq (by rw [List.getElem?_append_right (Nat.le_refl _), Nat.sub_self]; rfl)]
    exact then_id (isMap_id _)
theorem bld_map {α β : Type} (f : α → β) (z : α) (ps : List (Nat × α)) : (bldZ z ps).map f = bldZ (f z) (ps.map fun p => (p.1, f p.2)) := by
  unfold bldZ
  induction ps with
  | nil => rfl
  | cons p ps ih => rw [List.map_cons, List.flatMap_cons, List.flatMap_cons, List.map_append, ih, List.map_append, List.map_replicate]; rfl
theorem bld_mem {α : Type} {z : α} {ps : List (Nat × α)} {c : α} (h : c ∈ bldZ z ps) : c = z ∨ ∃ p ∈ ps, c = p.2 := by
  unfold bldZ at h
  obtain ⟨p, hp, hc⟩ := List.mem_flatMap.mp h
  rcases List.mem_append.mp hc with q | q
  · exact .inl (List.mem_replicate.mp q).2
  · exact .inr ⟨p, hp, List.mem_singleton.mp q⟩
/-- the word with idle blocks between -/
theorem idle_law {t : Tn} {h : t.maps.length ≤ 100} {L : Nat} (hL : 1 ≤ L) (h2 : 2 ≤ t.many) {w : List Nat} {ps : List (Nat × List Nat)} (hw : ∀ s ∈ w, s < t.maps.length) {n : Nat} (hn : w.length = n * L) (hp : ps.map (·.2) = (List.range n).map fun j => (w.drop (j * L)).take L) :
    RoRel (readOnceM t L w) (readOnceM (idleT t h) L (bldZ (List.replicate L t.maps.length) ps).flatten) := by
  have hc : ∀ c ∈ ps.map (·.2), c.length = L ∧ ∀ s ∈ c, s < t.maps.length := fun c hc => by
    rw [hp] at hc
    obtain ⟨j, hj, rfl⟩ := List.mem_map.mp hc
    have hj := List.mem_range.mp hj
    refine ⟨?_, fun s hs => hw s (List.mem_of_mem_drop (List.mem_of_mem_take hs))⟩
    rw [List.length_take, List.length_drop, hn]
    have : (j + 1) * L ≤ n * L := Nat.mul_le_mul_right _ hj
    rw [Nat.succ_mul] at this
    omega
  have e1 : readOnceM t L w = roB (ps.map fun p => mapW t p.2) 0 none := by
    unfold readOnceM
    rw [hn, Nat.mul_div_cancel _ (by omega), roLoop_B]
    congr 1
    rw [show (ps.map fun p => mapW t p.2) = (ps.map (·.2)).map (mapW t) by rw [List.map_map]; rfl, hp, List.map_map]
    refine List.map_congr_left fun j _ => ?_
    rw [Nat.zero_add]
    rfl
  have e2 : readOnceM (idleT t h) L (bldZ (List.replicate L t.maps.length) ps).flatten = roB (bldZ (idMap t.many) (ps.map fun p => (p.1, mapW t p.2))) 0 none := by
    rw [once_flat hL fun c hc' => ?_, bld_map, idle_id]
    · congr 2
      refine List.map_congr_left fun p hp' => ?_
      rw [idle_map (hc p.2 (List.mem_map.mpr ⟨p, hp', rfl⟩)).2]
    · rcases bld_mem hc' with rfl | ⟨p, hp', rfl⟩
      · exact List.length_replicate
      · exact (hc p.2 (List.mem_map.mpr ⟨p, hp', rfl⟩)).1
  rw [e1, e2, show (ps.map fun p => mapW t p.2) = ((ps.map fun p => (p.1, mapW t p.2)).map (·.2)) by rw [List.map_map]; rfl]
  refine roB_bld h2 (fun q hq => ?_) (fun s h => nomatch h) (Nat.le_refl _)
  obtain ⟨p, hp', rfl⟩ := List.mem_map.mp hq
  exact isMap_mapW (hc p.2 (List.mem_map.mpr ⟨p, hp', rfl⟩)).2
end El

set_option Elab.async false
set_option linter.all false
set_option maxRecDepth 100000
set_option maxHeartbeats 4000000
namespace El
open PySem PySem.Spec L2
variable [LawTabs]
/-! ### turns with few maps -/
def allL (k : Nat) : Nat → List (List Nat)
  | 0 => [[]]
  | n + 1 => (List.range k).flatMap fun x => (allL k n).map (x :: ·)
theorem allL_mem {k : Nat} : ∀ {n : Nat} {m : List Nat}, m.length = n → (∀ x ∈ m, x < k) → m ∈ allL k n
  | 0, m, h, _ => by rw [List.length_eq_zero_iff.mp h]; exact List.mem_singleton.mpr rfl
  | n + 1, [], h, _ => by cases h
  | n + 1, x :: m, h, hx => List.mem_flatMap.mpr ⟨x, List.mem_range.mpr (hx x List.mem_cons_self), List.mem_map.mpr ⟨m, allL_mem (by rw [List.length_cons] at h; omega) fun y hy => hx y (List.mem_cons_of_mem _ hy), rfl⟩⟩
theorem allL_few : ∀ k : Nat, k ≤ 4 → (allL k k).length ≤ 256 := by
  intro k hk
  have : ((List.range 5).all fun k => decide ((allL k k).length ≤ 256)) = true := by decide +kernel
  exact of_decide_eq_true (List.all_eq_true.mp this k (List.mem_range.mpr (by omega)))
theorem maps_few {t : Tn} (h : t.many ≤ 4) : ∃ xs, mapsM t = some xs := by
  cases q : mapsM t with
  | some xs => exact ⟨xs, rfl⟩
  | none =>
    exfalso
    have q' : foundLoop (stepsM t) 300 301 0 [idMap t.many] = none := q
    obtain ⟨ys, nd, hr, hl⟩ := loop_many q' (show 1 ≤ 300 by decide) (List.pairwise_singleton _ _) fun x hx => by rw [List.mem_singleton.mp hx]; exact .here
    have hi : ∀ y ∈ ys, y ∈ allL t.many t.many := fun y hy => by
      obtain ⟨w, hw, rfl⟩ := rch_word.mp (hr y hy)
      have := isMap_mapW (T := t) hw
      exact allL_mem this.1 this.2
    have h1 := nd_len nd hi
    have h2 := allL_few t.many h
    omega
/-- what the law is told of reading once -/
noncomputable def oT (t : Tn) (n : Nat) : Option (List Rat) := if (mtT t n).sum = 0 then none else some (onceV t n)
theorem mul_map_sum (c : Nat) (f : Nat → Nat) (xs : List Nat) : (xs.map fun x => c * f x).sum = c * (xs.map f).sum := sum_mul c f xs
theorem cnt_perm {maps maps' : List (List Nat)} (h : maps.Perm maps') (a i : Nat) : cntS1 maps a i = cntS1 maps' a i := (h.map _).sum_nat
theorem cnt_rep {maps : List (List Nat)} (k a i : Nat) : cntS1 (List.replicate k maps).flatten a i = k * cntS1 maps a i := sum_rep _ _ _
theorem rep_len {α : Type} (xs : List α) : ∀ k : Nat, (List.replicate k xs).flatten.length = k * xs.length
  | 0 => by rw [Nat.zero_mul]; rfl
  | k + 1 => by rw [List.replicate_succ, List.flatten_cons, List.length_append, rep_len xs k, Nat.succ_mul]; omega
section
variable {t : Tn} {k n : Nat}
theorem more_tot {t' : Tn} (hm : t'.many = t.many) (hp : t'.maps.Perm (List.replicate k t.maps).flatten) (p : List Nat → Bool) : tot (mcM t' n) p = k ^ n * tot (mcM t n) p := by
  rw [tot_mc, tot_mc, numW_perm hp, numW_rep, hm]
theorem more_blocks {t' : Tn} (hm : t'.many = t.many) (hp : t'.maps.Perm (List.replicate k t.maps).flatten) : mtT t' n = (mtT t n).map (fun x => x * k ^ n) ∧ ldT t' n = (ldT t n).map fun r => r.map fun x => x * k ^ n := by
  constructor
  · unfold mtT metL
    rw [List.map_map, hm]
    exact List.map_congr_left fun i _ => by rw [more_tot hm hp, Nat.mul_comm]; rfl
  · unfold ldT ledL
    rw [List.map_map, hm]
    refine List.map_congr_left fun j _ => ?_
    unfold ledR
    show _ = ((List.range t.many).map fun i => tot (mcM t n) (ledP j i)).map _
    rw [List.map_map]
    exact List.map_congr_left fun i _ => by rw [more_tot hm hp, Nat.mul_comm]; rfl
theorem more_sum {t' : Tn} (hm : t'.many = t.many) (hp : t'.maps.Perm (List.replicate k t.maps).flatten) : (mtT t' n).sum = k ^ n * (mtT t n).sum := by
  unfold mtT metL
  rw [hm, ← mul_map_sum]
  exact sum_congr fun i _ => more_tot hm hp _
theorem once_more {t' : Tn} {M : Nat} (hm : t'.many = t.many) (hp : t'.maps.Perm (List.replicate k t.maps).flatten) (k1 : 1 ≤ k) (h1 : 1 ≤ M) (hM : t.maps.length ^ n ≤ M) (hb : t.many ^ t.many * M ^ t.many < 2 ^ 4000) : oT t' n = oT t n := by
  have hs := more_sum (n := n) hm hp
  have kp : 0 < k ^ n := Nat.pow_pos (by omega)
  unfold oT
  by_cases z : (mtT t n).sum = 0
  · rw [if_pos z, if_pos (by rw [hs, z, Nat.mul_zero])]
  · have z' : (mtT t' n).sum ≠ 0 := by
      rw [hs]
      intro e
      rcases Nat.mul_eq_zero.mp e with q | q
      · omega
      · exact z q
    rw [if_neg z, if_neg z']
    obtain ⟨e1, e2⟩ := once_rest z (once_solvT z h1 hM hb)
    have hlen : t'.maps.length = k * t.maps.length := by rw [hp.length_eq, rep_len]
    have := once_of_rest (t := t') (n := n) z' (y := onceXT t n) (by rw [hm]; exact e1) fun i hi => by
      rw [hm] at hi ⊢
      rw [hlen, cast_mul, Rat.mul_assoc, ← e2 i hi]
      unfold actQ
      rw [← sumQ_mul]
      refine sumQ_congr fun a _ => ?_
      rw [cnt_perm hp, cnt_rep, cast_mul]
      grind
    rw [this, hm]
    rfl
theorem once_idle {h : t.maps.length ≤ 100} {M : Nat} (z : (mtT t n).sum ≠ 0) (h1 : 1 ≤ M) (hM : t.maps.length ^ n ≤ M) (hb : t.many ^ t.many * M ^ t.many < 2 ^ 4000) : oT (idleT t h) n = oT t n := by
  have z' : (mtT (idleT t h) n).sum ≠ 0 := by
    have : (mtT t n).sum ≤ (mtT (idleT t h) n).sum := by
      unfold mtT metL
      refine sum_le fun i _ => ?_
      rw [tot_mc, tot_mc]
      exact numW_more
    omega
  unfold oT
  rw [if_neg z, if_neg z']
  obtain ⟨e1, e2⟩ := once_rest z (once_solvT z h1 hM hb)
  have := once_of_rest (t := idleT t h) (n := n) z' (y := onceXT t n) e1 fun i hi => by
    have hi : i < t.many := hi
    show actQ (t.maps ++ [idMap t.many]) t.many (onceXT t n) i = (((t.maps ++ [idMap t.many]).length : Nat) : Rat) * onceXT t n i
    rw [List.length_append, cast_add]
    have hc : ∀ a, a < t.many → cntS1 (t.maps ++ [idMap t.many]) a i = cntS1 t.maps a i + (if a = i then 1 else 0) := fun a ha => by
      unfold cntS1
      rw [List.map_append, List.sum_append]
      show _ + ((if (idMap t.many).getD a 0 = i then 1 else 0) + 0) = _
      rw [show (idMap t.many).getD a 0 = a from getD_eq (by unfold idMap; exact List.getElem?_range ha), Nat.add_zero]
    have ha : actQ (t.maps ++ [idMap t.many]) t.many (onceXT t n) i = actQ t.maps t.many (onceXT t n) i + sumQ t.many fun a => if a = i then onceXT t n i else 0 := by
      unfold actQ
      rw [← sumQ_add]
      refine sumQ_congr fun a ha => ?_
      rw [hc a ha, cast_add]
      by_cases e : a = i
      · rw [if_pos e, if_pos e, e]
        show _ * (_ + 1) = _
        grind
      · rw [if_neg e, if_neg e]
        show _ * (_ + 0) = _
        grind
    rw [ha, sumQ_one hi fun a _ hne => if_neg hne, if_pos rfl, e2 i hi]
    show _ = (_ + 1) * _
    grind
  rw [this]
  rfl
end
end El

set_option Elab.async false
set_option linter.all false
set_option maxRecDepth 100000
set_option maxHeartbeats 4000000
namespace El
open PySem PySem.Spec L2
variable [LawTabs]
section
variable {K : PySem.W.Frag} {σ : St} {F H F' H' : Hp} {ta tb : TE} {α β : Type} {R : Rp α} {a : Addr} {c1 c2 : Nat} {xs ys : List α}
theorem rep_paired {F : Hp} {vs : List V} (p : Paired (R F) vs xs) : ∀ n : Nat, Paired (R F) (List.replicate n vs).flatten (List.replicate n xs).flatten
  | 0 => .nil
  | n + 1 => by
    rw [List.replicate_succ, List.replicate_succ, List.flatten_cons, List.flatten_cons]
    exact Paired.app p (rep_paired p n)
/-- xs * n -/
theorem ev_repN {n : Nat} (ha : Ev (rLst R) ta σ F H xs) (hb : Ev rInt tb σ F H (n : Int)) (hn : n ≤ 1000000) (hz : xs.length * n ≤ 1000000) (m : Mn R := by infer_instance) : Ev (rLst R) (tOp rRep ta tb) σ F H (List.replicate n xs).flatten := fun F1 H1 g1 Q q =>
  ha F1 H1 g1 _ fun v F2 H2 g2 ⟨b, vs, e, hl, p⟩ => hb F2 H2 (g1.trans g2) _ fun w F3 H3 g3 e2 => by
    refine ⟨b, (n : Int), vs, e, e2, g3.fh _ _ (g3.ff _ _ hl), by omega, by omega, by rw [Int.toNat_natCast, p.length, sizeLine_eq]; omega, fun D hD => ?_⟩
    have g4 : Gr M0 F3 H3 (upd F3 D (.lst (List.replicate ((n : Int)).toNat vs).flatten)) (upd H3 D (.lst (List.replicate ((n : Int)).toNat vs).flatten)) := .new g3.fh hD
    refine q _ _ _ ((g2.trans g3).trans g4) ⟨D, _, rfl, upd_same, ?_⟩
    rw [Int.toNat_natCast]
    exact rep_paired (Paired.up (g3.ff.trans (Ex.new (g3.fh.free hD))) p) n
theorem es_repN {B : Nat} {P1 : List α → Prop} {P2 : Int → Prop} (ha : EvS a c1 (rLst R) ta σ F H P1) (hb : EvS a c2 rInt tb σ F H P2) (h2 : ∀ n, P2 n → 0 ≤ n ∧ n ≤ (B : Int)) (hB : B ≤ 1000000) (h1 : ∀ xs, P1 xs → xs.length * B ≤ 1000000) (m : Mn R := by infer_instance) : EvS a (c1 + c2) (rLst R) (tOp rRep ta tb) σ F H (fun l => ∃ xs, ∃ n : Nat, P1 xs ∧ P2 (n : Int) ∧ n ≤ B ∧ l = (List.replicate n xs).flatten) :=
  es_two ha hb inferInstance fun F3 H3 N v w xs i Q e fa s p1 p2 r1 r2 q => by
    obtain ⟨i0, i1⟩ := h2 i p2
    obtain ⟨n, rfl⟩ : ∃ n : Nat, i = (n : Int) := ⟨i.toNat, by omega⟩
    obtain ⟨b, vs, ev, hl, p⟩ := r1
    have hz := h1 xs p1
    have : xs.length * n ≤ xs.length * B := Nat.mul_le_mul_left _ (by omega)
    refine ⟨b, (n : Int), vs, ev, r2, e _ _ hl, by omega, by omega, by rw [Int.toNat_natCast, p.length, sizeLine_eq]; omega, fun D hD => ?_⟩
    have g4 : Gr M0 F3 H3 (upd F3 D (.lst (List.replicate ((n : Int)).toNat vs).flatten)) (upd H3 D (.lst (List.replicate ((n : Int)).toNat vs).flatten)) := .new e hD
    refine q _ _ _ _ g4 ⟨xs, n, p1, p2, by omega, rfl⟩ ⟨D, _, rfl, upd_same, ?_⟩
    rw [Int.toNat_natCast]
    exact rep_paired (Paired.up (Ex.new (e.free hD)) p) n
theorem es_cat {P1 P2 : List α → Prop} (ha : EvS a c1 (rLst R) ta σ F H P1) (hb : EvS a c2 (rLst R) tb σ F H P2) (hz : ∀ xs ys, P1 xs → P2 ys → xs.length + ys.length ≤ 1000000) (m : Mn R := by infer_instance) : EvS a (c1 + c2) (rLst R) (tOp rCat ta tb) σ F H (fun l => ∃ xs ys, P1 xs ∧ P2 ys ∧ l = xs ++ ys) :=
  es_two ha hb inferInstance fun F3 H3 N v w xs ys Q e fa s p1 p2 r1 r2 q => by
    obtain ⟨b, vs, ev, hl, p⟩ := r1
    obtain ⟨d, ws, ew, hl2, p'⟩ := r2
    have := hz xs ys p1 p2
    refine ⟨b, d, vs, ws, ev, ew, e _ _ hl, e _ _ hl2, by rw [p.length, p'.length, sizeLine_eq]; omega, fun D hD => ?_⟩
    have g4 : Gr M0 F3 H3 (upd F3 D (.lst (vs ++ ws))) (upd H3 D (.lst (vs ++ ws))) := .new e hD
    exact q _ _ _ _ g4 ⟨xs, ys, p1, p2, rfl⟩ ⟨D, _, rfl, upd_same, Paired.app (Paired.up g4.ff p) (Paired.up g4.ff p')⟩
theorem es_Turns {n : Nat} {C : Addr} {E : XK} {P : List (List Nat) → Prop} {c : Nat} (ha : ∀ F1 H1, Gr (M1 a) F H F1 H1 → F1 a = none → Ev rInt ta σ F1 H1 (n : Int)) (hb : EvS a c (rLst (rTup rNat)) tb σ F H P) (hp : ∀ ms, P ms → ∃ t : Tn, t.many = n ∧ t.maps = ms) : EvS a c (rTurns C) (tMake C (SpTurns C) [] E (tCons ta (tCons tb tNil))) σ F H (fun t => t.many = n ∧ P t.maps) := fun F1 H1 N g fa s Q q =>
  ha F1 H1 g fa F1 H1 (.refl g.fh) _ fun v F2 H2 g2 r => by
    obtain ⟨o, ho⟩ := s.someO
    refine hb F2 H2 N (g.trans g2.up) (g2.nn ho fa) (s.gr g2) _ fun w ms F3 H3 g3 fa3 s3 pm r3 => fun x dx nx ndx nex => ?_
    cases (show v = _ from r)
    obtain ⟨t, e1, e2⟩ := hp ms pm
    have ee : ExT F3 (upd (upd H3 dx (.own x)) x (.ins C dx [])) := g3.fh.make nx ndx nex.symm
    refine ⟨F3, x, dx, w, t, by rw [e1]; rfl, ee, g3.fh.free nx, upd_same, by rw [e2]; exact r3, fun F' H' g k => ⟨rfl, ?_⟩⟩
    have gm : Gr M0 F3 H3 F' H' := .made (M := M0) nx ndx nex.symm g
    obtain ⟨o3, ho3⟩ := s3.someO
    exact q _ t F' H' ((g2.up.trans g3).trans gm.up) (gm.nn ho3 fa3) (s3.gr gm) ⟨e1, by rw [e2]; exact pm⟩ k
end
end El

set_option Elab.async false
set_option linter.all false
set_option maxRecDepth 100000
set_option maxHeartbeats 4000000
namespace K68
open PySem PySem.Spec L2 El
def topS (i : Nat) : Stmt := PySem.Challenge.pw_elderdraw_k68_whole_signs_more_than_once.main.body.getD i (.Pass ⟨0, 0, 0, 0⟩)
abbrev s_is_whole : Stmt := topS 8
abbrev N_is_whole : List Str := ["thing"]
theorem sc_is_whole : FnScope N_is_whole ["thing"] (defScope s_is_whole) := ⟨rfl, rfl, rfl, by decide +kernel, rfl, by decide +kernel, by decide +kernel⟩
abbrev s_is_between : Stmt := topS 9
abbrev N_is_between : List Str := ["thing", "least", "most"]
theorem sc_is_between : FnScope N_is_between ["thing", "least", "most"] (defScope s_is_between) := ⟨rfl, rfl, rfl, by decide +kernel, rfl, by decide +kernel, by decide +kernel⟩
abbrev s_common : Stmt := topS 23
abbrev N_common : List Str := ["one", "other"]
theorem sc_common : FnScope N_common ["one", "other"] (defScope s_common) := ⟨rfl, rfl, rfl, by decide +kernel, rfl, by decide +kernel, by decide +kernel⟩
abbrev s_Share_init : Stmt := inClass (topS 24) 0
abbrev N_Share_init : List Str := ["self", "top", "bottom", "by"]
theorem sc_Share_init : FnScope N_Share_init ["self", "top", "bottom"] (defScope s_Share_init) := ⟨rfl, rfl, rfl, by decide +kernel, rfl, by decide +kernel, by decide +kernel⟩
abbrev s_Share_eq : Stmt := inClass (topS 24) 1
abbrev N_Share_eq : List Str := ["self", "other"]
theorem sc_Share_eq : FnScope N_Share_eq ["self", "other"] (defScope s_Share_eq) := ⟨rfl, rfl, rfl, by decide +kernel, rfl, by decide +kernel, by decide +kernel⟩
abbrev s_with_pivot : Stmt := topS 26
abbrev N_with_pivot : List Str := ["rows", "at", "found", "k"]
theorem sc_with_pivot : FnScope N_with_pivot ["rows", "at"] (defScope s_with_pivot) := ⟨rfl, rfl, rfl, by decide +kernel, rfl, by decide +kernel, by decide +kernel⟩
abbrev s_cleared : Stmt := topS 27
abbrev N_cleared : List Str := ["rows", "at", "last", "main", "found", "k", "row", "one", "other"]
theorem sc_cleared : FnScope N_cleared ["rows", "at", "last"] (defScope s_cleared) := ⟨rfl, rfl, rfl, by decide +kernel, rfl, by decide +kernel, by decide +kernel⟩
abbrev s_solved : Stmt := topS 28
abbrev N_solved : List Str := ["rows", "many", "last", "at", "right", "k"]
theorem sc_solved : FnScope N_solved ["rows"] (defScope s_solved) := ⟨rfl, rfl, rfl, by decide +kernel, rfl, by decide +kernel, by decide +kernel⟩
abbrev s_is_map : Stmt := topS 36
abbrev N_is_map : List Str := ["thing", "many", "to"]
theorem sc_is_map : FnScope N_is_map ["thing", "many"] (defScope s_is_map) := ⟨rfl, rfl, rfl, by decide +kernel, rfl, by decide +kernel, by decide +kernel⟩
abbrev s_Turns_init : Stmt := inClass (topS 37) 0
abbrev N_Turns_init : List Str := ["self", "many", "maps", "one"]
theorem sc_Turns_init : FnScope N_Turns_init ["self", "many", "maps"] (defScope s_Turns_init) := ⟨rfl, rfl, rfl, by decide +kernel, rfl, by decide +kernel, by decide +kernel⟩
abbrev s_Turns_len : Stmt := inClass (topS 37) 2
abbrev N_Turns_len : List Str := ["self"]
theorem sc_Turns_len : FnScope N_Turns_len ["self"] (defScope s_Turns_len) := ⟨rfl, rfl, rfl, by decide +kernel, rfl, by decide +kernel, by decide +kernel⟩
abbrev s_check_signs : Stmt := topS 12
abbrev N_check_signs : List Str := ["turns", "signs", "sign"]
theorem sc_check_signs : FnScope N_check_signs ["turns", "signs"] (defScope s_check_signs) := ⟨rfl, rfl, rfl, by decide +kernel, rfl, by decide +kernel, by decide +kernel⟩
abbrev s_begin_of : Stmt := topS 13
abbrev N_begin_of : List Str := ["turns"]
theorem sc_begin_of : FnScope N_begin_of ["turns"] (defScope s_begin_of) := ⟨rfl, rfl, rfl, by decide +kernel, rfl, by decide +kernel, by decide +kernel⟩
abbrev s_then : Stmt := topS 14
abbrev N_then : List Str := ["first", "second", "place"]
theorem sc_then : FnScope N_then ["first", "second"] (defScope s_then) := ⟨rfl, rfl, rfl, by decide +kernel, rfl, by decide +kernel, by decide +kernel⟩
abbrev s_has_met : Stmt := topS 15
abbrev N_has_met : List Str := ["one"]
theorem sc_has_met : FnScope N_has_met ["one"] (defScope s_has_met) := ⟨rfl, rfl, rfl, by decide +kernel, rfl, by decide +kernel, by decide +kernel⟩
abbrev s_map_of : Stmt := topS 16
abbrev N_map_of : List Str := ["turns", "word", "found", "sign"]
theorem sc_map_of : FnScope N_map_of ["turns", "word"] (defScope s_map_of) := ⟨rfl, rfl, rfl, by decide +kernel, rfl, by decide +kernel, by decide +kernel⟩
abbrev s_found_from : Stmt := topS 17
abbrev N_found_from : List Str := ["begin", "leads", "most", "found", "known", "at", "thing"]
theorem sc_found_from : FnScope N_found_from ["begin", "leads", "most"] (defScope s_found_from) := ⟨rfl, rfl, rfl, by decide +kernel, rfl, by decide +kernel, by decide +kernel⟩
abbrev s_maps_of : Stmt := topS 18
abbrev N_maps_of : List Str := ["turns"]
theorem sc_maps_of : FnScope N_maps_of ["turns"] (defScope s_maps_of) := ⟨rfl, rfl, rfl, by decide +kernel, rfl, by decide +kernel, by decide +kernel⟩
abbrev ls_maps_of : Scope := lscope (defBody s_maps_of)
abbrev N_maps_of_lam : List Str := ["one", "turns", "step"]
theorem sc_maps_of_lam : CScope N_maps_of_lam "one" ["turns"] ls_maps_of := cscope_by (by decide +kernel)
theorem fr_maps_of : ∀ y ∈ ls_maps_of.names, y.2 = NameKind.free → (defScope s_maps_of).names.lookup y.1 = some NameKind.cell ∨ (defScope s_maps_of).names.lookup y.1 = some NameKind.free := by decide +kernel
theorem fq_maps_of : ∀ y ∈ (["turns"] : List Str), (y, NameKind.free) ∈ ls_maps_of.names := by decide +kernel
abbrev s_gone_on : Stmt := topS 20
abbrev N_gone_on : List Str := ["turns", "numbers", "is_elder", "found", "one", "number", "step", "to"]
theorem sc_gone_on : FnScope N_gone_on ["turns", "numbers", "is_elder"] (defScope s_gone_on) := ⟨rfl, rfl, rfl, by decide +kernel, rfl, by decide +kernel, by decide +kernel⟩
abbrev s_map_counts : Stmt := topS 21
abbrev N_map_counts : List Str := ["turns", "many", "numbers", "k"]
theorem sc_map_counts : FnScope N_map_counts ["turns", "many"] (defScope s_map_counts) := ⟨rfl, rfl, rfl, by decide +kernel, rfl, by decide +kernel, by decide +kernel⟩
abbrev s_blocks : Stmt := topS 30
abbrev N_blocks : List Str := ["turns", "long", "met", "led", "place", "one", "number", "to"]
theorem sc_blocks : FnScope N_blocks ["turns", "long"] (defScope s_blocks) := ⟨rfl, rfl, rfl, by decide +kernel, rfl, by decide +kernel, by decide +kernel⟩
abbrev s_NeverMeets_init : Stmt := inClass (topS 6) 0
abbrev N_NeverMeets_init : List Str := ["self", "pair"]
theorem sc_NeverMeets_init : FnScope N_NeverMeets_init ["self", "pair"] (defScope s_NeverMeets_init) := ⟨rfl, rfl, rfl, by decide +kernel, rfl, by decide +kernel, by decide +kernel⟩
abbrev s_once_shares : Stmt := topS 32
abbrev N_once_shares : List Str := ["turns", "long", "met", "led", "every", "rows", "to", "row", "place", "shares"]
theorem sc_once_shares : FnScope N_once_shares ["turns", "long"] (defScope s_once_shares) := ⟨rfl, rfl, rfl, by decide +kernel, rfl, by decide +kernel, by decide +kernel⟩
abbrev s_read_once : Stmt := topS 31
abbrev N_read_once : List Str := ["turns", "long", "word", "stand", "k", "one"]
theorem sc_read_once : FnScope N_read_once ["turns", "long", "word"] (defScope s_read_once) := ⟨rfl, rfl, rfl, by decide +kernel, rfl, by decide +kernel, by decide +kernel⟩
abbrev s__law_well : Stmt := topS 39
abbrev N__law_well : List Str := ["_law_cell"]
theorem sc__law_well : FnScope N__law_well ["_law_cell"] (defScope s__law_well) := ⟨rfl, rfl, rfl, by decide +kernel, rfl, by decide +kernel, by decide +kernel⟩
abbrev s__law_draw : Stmt := topS 40
abbrev N__law_draw : List Str := ["_law_well_here", "_law_many", "_law_digit", "_law_prime", "_law_number"]
theorem sc__law_draw : FnScope N__law_draw ["_law_well_here", "_law_many"] (defScope s__law_draw) := ⟨rfl, rfl, rfl, by decide +kernel, rfl, by decide +kernel, by decide +kernel⟩
abbrev s__law_one : Stmt := topS 41
abbrev N__law_one : List Str := ["_law_well_here", "_law_some"]
theorem sc__law_one : FnScope N__law_one ["_law_well_here", "_law_some"] (defScope s__law_one) := ⟨rfl, rfl, rfl, by decide +kernel, rfl, by decide +kernel, by decide +kernel⟩
abbrev s__law_map : Stmt := topS 42
abbrev N__law_map : List Str := ["_law_well_here", "_law_many", "_law_way", "_law_to", "_law_place"]
theorem sc__law_map : FnScope N__law_map ["_law_well_here", "_law_many"] (defScope s__law_map) := ⟨rfl, rfl, rfl, by decide +kernel, rfl, by decide +kernel, by decide +kernel⟩
abbrev s__law_turns : Stmt := topS 43
abbrev N__law_turns : List Str := ["_law_well_here", "_law_most", "_law_many", "_law_k"]
theorem sc__law_turns : FnScope N__law_turns ["_law_well_here", "_law_most"] (defScope s__law_turns) := ⟨rfl, rfl, rfl, by decide +kernel, rfl, by decide +kernel, by decide +kernel⟩
abbrev s__law_told : Stmt := topS 44
abbrev N__law_told : List Str := ["_law_turns_here", "_law_long"]
theorem sc__law_told : FnScope N__law_told ["_law_turns_here", "_law_long"] (defScope s__law_told) := ⟨rfl, rfl, rfl, by decide +kernel, rfl, by decide +kernel, by decide +kernel⟩
abbrev s__law_mixed : Stmt := topS 45
abbrev N__law_mixed : List Str := ["_law_well_here", "_law_some", "_law_left", "_law_k"]
theorem sc__law_mixed : FnScope N__law_mixed ["_law_well_here", "_law_some"] (defScope s__law_mixed) := ⟨rfl, rfl, rfl, by decide +kernel, rfl, by decide +kernel, by decide +kernel⟩
abbrev s__law_idle_right : Stmt := topS 46
abbrev N__law_idle_right : List Str := ["_law_well_here", "_law_turns_here", "_law_idle", "_law_long", "_law_word", "_law_k", "_law_longer", "_law_found", "_law_other"]
theorem sc__law_idle_right : FnScope N__law_idle_right ["_law_well_here", "_law_turns_here", "_law_idle", "_law_long"] (defScope s__law_idle_right) := ⟨rfl, rfl, rfl, by decide +kernel, rfl, by decide +kernel, by decide +kernel⟩
abbrev s_law : Stmt := topS 47
abbrev N_law : List Str := ["_law_script", "_law_cell", "_law_well_here", "_law_many", "_law_maps", "_law_often", "_law_long", "_law_turns_here", "_law_more", "_law_idle", "_law_by", "_law_k", "_law_met", "_law_onward", "_law_due", "_law_number", "_law_row"]
theorem sc_law : FnScope N_law ["_law_script"] (defScope s_law) := ⟨rfl, rfl, rfl, by decide +kernel, rfl, by decide +kernel, by decide +kernel⟩
section
variable [LawTabs] [LawBase]
abbrev base : Heap := LawBase.B
structure Tx (K : PySem.W.Frag) (mg : Str → Option Value) where
  a_is_whole : Addr
  d_is_whole : FuncData
  F_is_whole : Fun K "is_whole" "is_whole" s_is_whole a_is_whole d_is_whole
  b_is_whole : Binds K d_is_whole ["thing"] []
  g_is_whole : mg "is_whole" = some (.ref a_is_whole)
  a_is_between : Addr
  d_is_between : FuncData
  F_is_between : Fun K "is_between" "is_between" s_is_between a_is_between d_is_between
  b_is_between : Binds K d_is_between ["thing", "least", "most"] []
  g_is_between : mg "is_between" = some (.ref a_is_between)
  a_common : Addr
  d_common : FuncData
  F_common : Fun K "common" "common" s_common a_common d_common
  b_common : Binds K d_common ["one", "other"] []
  g_common : mg "common" = some (.ref a_common)
  a_Share_init : Addr
  d_Share_init : FuncData
  F_Share_init : FunD K "__init__" "Share.__init__" (defArgs s_Share_init) (defBody s_Share_init) (defScope s_Share_init) [.int 1] [] a_Share_init d_Share_init
  b_Share_init : Bnd K d_Share_init ["self", "top", "bottom"] []
  bd_Share_init : Bnd K d_Share_init ["self", "top", "bottom"] [.int 1]
  a_Share_eq : Addr
  d_Share_eq : FuncData
  F_Share_eq : Fun K "__eq__" "Share.__eq__" s_Share_eq a_Share_eq d_Share_eq
  b_Share_eq : Binds K d_Share_eq ["self", "other"] []
  a_with_pivot : Addr
  d_with_pivot : FuncData
  F_with_pivot : Fun K "with_pivot" "with_pivot" s_with_pivot a_with_pivot d_with_pivot
  b_with_pivot : Binds K d_with_pivot ["rows", "at"] []
  g_with_pivot : mg "with_pivot" = some (.ref a_with_pivot)
  a_cleared : Addr
  d_cleared : FuncData
  F_cleared : Fun K "cleared" "cleared" s_cleared a_cleared d_cleared
  b_cleared : Binds K d_cleared ["rows", "at", "last"] []
  g_cleared : mg "cleared" = some (.ref a_cleared)
  a_solved : Addr
  d_solved : FuncData
  F_solved : Fun K "solved" "solved" s_solved a_solved d_solved
  b_solved : Binds K d_solved ["rows"] []
  g_solved : mg "solved" = some (.ref a_solved)
  a_is_map : Addr
  d_is_map : FuncData
  F_is_map : Fun K "is_map" "is_map" s_is_map a_is_map d_is_map
  b_is_map : Binds K d_is_map ["thing", "many"] []
  g_is_map : mg "is_map" = some (.ref a_is_map)
  a_Turns_init : Addr
  d_Turns_init : FuncData
  F_Turns_init : Fun K "__init__" "Turns.__init__" s_Turns_init a_Turns_init d_Turns_init
  b_Turns_init : Binds K d_Turns_init ["self", "many", "maps"] []
  a_Turns_len : Addr
  d_Turns_len : FuncData
  F_Turns_len : Fun K "__len__" "Turns.__len__" s_Turns_len a_Turns_len d_Turns_len
  b_Turns_len : Binds K d_Turns_len ["self"] []
  a_check_signs : Addr
  d_check_signs : FuncData
  F_check_signs : Fun K "check_signs" "check_signs" s_check_signs a_check_signs d_check_signs
  b_check_signs : Binds K d_check_signs ["turns", "signs"] []
  g_check_signs : mg "check_signs" = some (.ref a_check_signs)
  a_begin_of : Addr
  d_begin_of : FuncData
  F_begin_of : Fun K "begin_of" "begin_of" s_begin_of a_begin_of d_begin_of
  b_begin_of : Binds K d_begin_of ["turns"] []
  g_begin_of : mg "begin_of" = some (.ref a_begin_of)
  a_then : Addr
  d_then : FuncData
  F_then : Fun K "then" "then" s_then a_then d_then
  b_then : Binds K d_then ["first", "second"] []
  g_then : mg "then" = some (.ref a_then)
  a_has_met : Addr
  d_has_met : FuncData
  F_has_met : Fun K "has_met" "has_met" s_has_met a_has_met d_has_met
  b_has_met : Binds K d_has_met ["one"] []
  g_has_met : mg "has_met" = some (.ref a_has_met)
  a_map_of : Addr
  d_map_of : FuncData
  F_map_of : Fun K "map_of" "map_of" s_map_of a_map_of d_map_of
  b_map_of : Binds K d_map_of ["turns", "word"] []
  g_map_of : mg "map_of" = some (.ref a_map_of)
  a_found_from : Addr
  d_found_from : FuncData
  F_found_from : Fun K "found_from" "found_from" s_found_from a_found_from d_found_from
  b_found_from : Binds K d_found_from ["begin", "leads", "most"] []
  g_found_from : mg "found_from" = some (.ref a_found_from)
  a_maps_of : Addr
  d_maps_of : FuncData
  cc_maps_of : Addr
  P_maps_of : Addr
  F_maps_of : FunC K "maps_of" "maps_of" s_maps_of a_maps_of d_maps_of cc_maps_of
  b_maps_of : Binds K d_maps_of ["turns"] []
  tb_maps_of : LamX.TabB base mg cc_maps_of P_maps_of
  tm_maps_of : (P_maps_of, (("maps_of" : Str) ++ (".<locals>." : Str)) ++ ("<lambda>" : Str)) ∈ LawTabs.T
  tu_maps_of : ∀ p ∈ LawTabs.T, p.1 = P_maps_of → p.2 = (("maps_of" : Str) ++ (".<locals>." : Str)) ++ ("<lambda>" : Str)
  g_maps_of : mg "maps_of" = some (.ref a_maps_of)
  a_gone_on : Addr
  d_gone_on : FuncData
  F_gone_on : Fun K "gone_on" "gone_on" s_gone_on a_gone_on d_gone_on
  b_gone_on : Binds K d_gone_on ["turns", "numbers", "is_elder"] []
  g_gone_on : mg "gone_on" = some (.ref a_gone_on)
  a_map_counts : Addr
  d_map_counts : FuncData
  F_map_counts : Fun K "map_counts" "map_counts" s_map_counts a_map_counts d_map_counts
  b_map_counts : Binds K d_map_counts ["turns", "many"] []
  g_map_counts : mg "map_counts" = some (.ref a_map_counts)
  a_blocks : Addr
  d_blocks : FuncData
  F_blocks : Fun K "blocks" "blocks" s_blocks a_blocks d_blocks
  b_blocks : Binds K d_blocks ["turns", "long"] []
  g_blocks : mg "blocks" = some (.ref a_blocks)
  a_NeverMeets_init : Addr
  d_NeverMeets_init : FuncData
  F_NeverMeets_init : Fun K "__init__" "NeverMeets.__init__" s_NeverMeets_init a_NeverMeets_init d_NeverMeets_init
  b_NeverMeets_init : Binds K d_NeverMeets_init ["self", "pair"] []
  a_once_shares : Addr
  d_once_shares : FuncData
  F_once_shares : Fun K "once_shares" "once_shares" s_once_shares a_once_shares d_once_shares
  b_once_shares : Binds K d_once_shares ["turns", "long"] []
  g_once_shares : mg "once_shares" = some (.ref a_once_shares)
  a_read_once : Addr
  d_read_once : FuncData
  F_read_once : Fun K "read_once" "read_once" s_read_once a_read_once d_read_once
  b_read_once : Binds K d_read_once ["turns", "long", "word"] []
  g_read_once : mg "read_once" = some (.ref a_read_once)
  a__law_well : Addr
  d__law_well : FuncData
  F__law_well : Fun K "_law_well" "_law_well" s__law_well a__law_well d__law_well
  b__law_well : Binds K d__law_well ["_law_cell"] []
  g__law_well : mg "_law_well" = some (.ref a__law_well)
  a__law_draw : Addr
  d__law_draw : FuncData
  F__law_draw : Fun K "_law_draw" "_law_draw" s__law_draw a__law_draw d__law_draw
  b__law_draw : Binds K d__law_draw ["_law_well_here", "_law_many"] []
  g__law_draw : mg "_law_draw" = some (.ref a__law_draw)
  a__law_one : Addr
  d__law_one : FuncData
  F__law_one : Fun K "_law_one" "_law_one" s__law_one a__law_one d__law_one
  b__law_one : Binds K d__law_one ["_law_well_here", "_law_some"] []
  g__law_one : mg "_law_one" = some (.ref a__law_one)
  a__law_map : Addr
  d__law_map : FuncData
  F__law_map : Fun K "_law_map" "_law_map" s__law_map a__law_map d__law_map
  b__law_map : Binds K d__law_map ["_law_well_here", "_law_many"] []
  g__law_map : mg "_law_map" = some (.ref a__law_map)
  a__law_turns : Addr
  d__law_turns : FuncData
  F__law_turns : Fun K "_law_turns" "_law_turns" s__law_turns a__law_turns d__law_turns
  b__law_turns : Binds K d__law_turns ["_law_well_here", "_law_most"] []
  g__law_turns : mg "_law_turns" = some (.ref a__law_turns)
  a__law_told : Addr
  d__law_told : FuncData
  F__law_told : Fun K "_law_told" "_law_told" s__law_told a__law_told d__law_told
  b__law_told : Binds K d__law_told ["_law_turns_here", "_law_long"] []
  g__law_told : mg "_law_told" = some (.ref a__law_told)
  a__law_mixed : Addr
  d__law_mixed : FuncData
  F__law_mixed : Fun K "_law_mixed" "_law_mixed" s__law_mixed a__law_mixed d__law_mixed
  b__law_mixed : Binds K d__law_mixed ["_law_well_here", "_law_some"] []
  g__law_mixed : mg "_law_mixed" = some (.ref a__law_mixed)
  a__law_idle_right : Addr
  d__law_idle_right : FuncData
  F__law_idle_right : Fun K "_law_idle_right" "_law_idle_right" s__law_idle_right a__law_idle_right d__law_idle_right
  b__law_idle_right : Binds K d__law_idle_right ["_law_well_here", "_law_turns_here", "_law_idle", "_law_long"] []
  g__law_idle_right : mg "_law_idle_right" = some (.ref a__law_idle_right)
  a_law : Addr
  d_law : FuncData
  F_law : Fun K "law" "law" s_law a_law d_law
  b_law : Binds K d_law ["_law_script"] []
  g_law : mg "law" = some (.ref a_law)
  C_Share : Addr
  cl_Share : Cls K C_Share
  g_Share : mg "Share" = some (.ref C_Share)
  mk_Share : Mk K C_Share a_Share_init
  ic_Share : C8.InsC K C_Share
  C_Turns : Addr
  cl_Turns : Cls K C_Turns
  g_Turns : mg "Turns" = some (.ref C_Turns)
  mk_Turns : Mk K C_Turns a_Turns_init
  C_DrawError : Addr
  g_DrawError : mg "DrawError" = some (.ref C_DrawError)
  base_DrawError : BaseC K C_DrawError
  C_NeverMeets : Addr
  g_NeverMeets : mg "NeverMeets" = some (.ref C_NeverMeets)
  oex_NeverMeets : OexC K C_NeverMeets
  ii_NeverMeets : PySem.W.findIn K (.ref C_NeverMeets) "__init__" = some (some (.ref a_NeverMeets_init))
  tf_NeverMeets : PySem.W.typeIn K (.ref a_NeverMeets_init) = some (.type "function")
  xf_NeverMeets : XfC K C_NeverMeets
  nf_NeverMeets : PySem.W.findIn K (.ref C_NeverMeets) "pair" = some none
  te_NeverMeets : PySem.W.exmOne K (.ref C_NeverMeets) (.ref C_NeverMeets) = some true
  C_TooMany : Addr
  g_TooMany : mg "TooMany" = some (.ref C_TooMany)
  xp_TooMany : PySem.W.excIn K C_TooMany [.type "ValueError", .type "Exception", .type "BaseException", .type "object"] "ValueError.__new__" = true
  xk_TooMany : PySem.W.keepIn K (.ref C_TooMany) = true
  xe_TooMany : PySem.W.subIn K (.ref C_TooMany) (.type "BaseException") = some true
  xt_TooMany : PySem.W.typeIn K (.ref C_TooMany) = some (.type "type")
  te_TooMany : PySem.W.exmOne K (.ref C_TooMany) (.ref C_TooMany) = some true
  m_Share_eq : Meth K C_Share "__eq__" a_Share_eq
  m_Turns_len : Meth K C_Turns "__len__" a_Turns_len
  na_Share_bottom : NoAttr K C_Share "bottom"
  na_Share_top : NoAttr K C_Share "top"
  na_Turns_many : NoAttr K C_Turns "many"
  na_Turns_maps : NoAttr K C_Turns "maps"
  z_abs : mg "abs" = none
  z_all : mg "all" = none
  z_bool : mg "bool" = none
  z_enumerate : mg "enumerate" = none
  z_int : mg "int" = none
  z_isinstance : mg "isinstance" = none
  z_len : mg "len" = none
  z_list : mg "list" = none
  z_range : mg "range" = none
  z_set : mg "set" = none
  z_sorted : mg "sorted" = none
  z_sum : mg "sum" = none
  z_tuple : mg "tuple" = none
  z_zip : mg "zip" = none
  t_MOST_MAPS : Tok
  c_MOST_MAPS : mg "MOST_MAPS" = some (.int 300 t_MOST_MAPS)
  t_MOST_PLACES : Tok
  c_MOST_PLACES : mg "MOST_PLACES" = some (.int 32 t_MOST_PLACES)
  t_MOST_SIGNS : Tok
  c_MOST_SIGNS : mg "MOST_SIGNS" = some (.int 200 t_MOST_SIGNS)
variable {P : Program} {w : World} {K : PySem.W.Frag} {mg : Str → Option Value}
local macro_rules | `(tactic| walk_at "rp") => `(tactic| first
  | assumption
  | exact (show _ = _ from rfl)
  | (apply rpm (Gr.ff (by assumption)); (case r => walk_at "rp"); (case m => infer_instance))
  | (apply rpm (by assumption); (case r => walk_at "rp"); (case m => infer_instance)))
local macro_rules | `(tactic| walk_at "ex") => `(tactic| first
  | assumption
  | exact Ex.refl _
  | exact Gr.fh (by assumption)
  | exact Gr.ff (by assumption)
  | (refine' Ex.trans ?_ (Gr.ff (by assumption)); walk_at "ex")
  | (refine' Ex.trans ?_ (by assumption); walk_at "ex"))
local macro_rules | `(tactic| walk_at "sd") => `(tactic| first | trivial | assumption | omega | exact atI_natL (by assumption) | exact ⟨by omega, by omega⟩)
local macro_rules | `(tactic| walk_at "n") => `(tactic| (repeat (first | with_reducible apply sn | with_reducible apply sq | (dsimp only))))
local macro_rules | `(tactic| walk_at "eo") => `(tactic| first
  | with_reducible exact eo_none
  | ((with_reducible apply eo_some); walk_at "ev"))
local macro_rules | `(tactic| walk_at "el") => `(tactic| first
  | with_reducible exact el_nil
  | ((with_reducible apply el_cons); (case h => walk_at "ev"); (case hr => walk_at "el"); (case m => infer_instance)))
local macro_rules | `(tactic| walk_at "et") => `(tactic| first
  | ((with_reducible apply et_test); walk_at "ev")
  | ((with_reducible apply et_B); walk_at "ev")
  | ((with_reducible apply et_not); walk_at "et")
  | ((with_reducible apply et_and); (case h1 => walk_at "et"); (case h2 => intro hh; clear hh; walk_at "et"))
  | ((with_reducible apply et_or); (case h1 => walk_at "et"); (case h2 => intro hh; clear hh; walk_at "et")))
local macro_rules | `(tactic| walk_at "ev") => `(tactic| first
  | with_reducible exact ev_int
  | with_reducible exact ev_bl
  | with_reducible exact ev_str
  | with_reducible exact ev_noneO
  | with_reducible exact ev_non
  | with_reducible exact ev_ty
  | with_reducible exact ev_ref
  | ((with_reducible apply ev_var); (case h => rfl); (case r => walk_at "rp"); (case m => infer_instance))
  | ((with_reducible apply ev_add); (case ha => walk_at "ev"); (case hb => walk_at "ev"))
  | ((with_reducible apply ev_sub); (case ha => walk_at "ev"); (case hb => walk_at "ev"))
  | ((with_reducible apply ev_mul); (case ha => walk_at "ev"); (case hb => walk_at "ev"); (try (case hc => walk_at "sd")))
  | ((with_reducible apply ev_mod); (case ha => walk_at "ev"); (case hb => walk_at "ev"); (try (case hc => walk_at "sd")))
  | ((with_reducible apply ev_fdiv); (case ha => walk_at "ev"); (case hb => walk_at "ev"); (try (case hc => walk_at "sd")))
  | ((with_reducible apply ev_pow); (case ha => walk_at "ev"); (case hb => walk_at "ev"); (try (case hc => walk_at "sd")))
  | ((with_reducible apply ev_lt); (case ha => walk_at "ev"); (case hb => walk_at "ev"))
  | ((with_reducible apply ev_le); (case ha => walk_at "ev"); (case hb => walk_at "ev"))
  | ((with_reducible apply ev_gt); (case ha => walk_at "ev"); (case hb => walk_at "ev"))
  | ((with_reducible apply ev_ge); (case ha => walk_at "ev"); (case hb => walk_at "ev"))
  | ((with_reducible apply ev_chain); (case ha => walk_at "ev"); (case hb => walk_at "ev"); (case hc => walk_at "ev"))
  | ((with_reducible apply ev_eqI); (case ha => walk_at "ev"); (case hb => walk_at "ev"))
  | ((with_reducible apply ev_neI); (case ha => walk_at "ev"); (case hb => walk_at "ev"))
  | ((with_reducible apply ev_eqS); (case ha => walk_at "ev"); (case hb => walk_at "ev"))
  | ((with_reducible apply ev_neS); (case ha => walk_at "ev"); (case hb => walk_at "ev"))
  | ((with_reducible apply ev_isN); (case ha => walk_at "ev"); (case n => infer_instance))
  | ((with_reducible apply ev_notN); (case ha => walk_at "ev"); (case n => infer_instance))
  | ((with_reducible apply ev_neg); walk_at "ev")
  | ((with_reducible apply ev_fld); (case ha => walk_at "ev"); (case c => infer_instance))
  | ((with_reducible apply ev_lenL); walk_at "ev")
  | ((with_reducible apply ev_lenT); walk_at "ev")
  | ((with_reducible apply ev_lenOwn); (case ha => walk_at "ev"); (try (case hz => walk_at "sd")))
  | ((with_reducible apply ev_lenSet); (case ha => walk_at "ev"); (try (case hz => walk_at "sd")))
  | ((with_reducible apply ev_call1); (case ha => walk_at "ev"); (try (case p => walk_at "sd")))
  | ((with_reducible apply ev_call2); (case ha => walk_at "ev"); (case hb => walk_at "ev"); (try (case p => walk_at "sd")); (case m => infer_instance))
  | ((with_reducible apply ev_call3); (case ha => walk_at "ev"); (case hb => walk_at "ev"); (case hc => walk_at "ev"); (try (case p => walk_at "sd")); (case m => infer_instance); (case n => infer_instance))
  | ((with_reducible apply ev_call4); (case ha => walk_at "ev"); (case hb => walk_at "ev"); (case hc => walk_at "ev"); (case hd => walk_at "ev"); (try (case p => walk_at "sd")); (case m => infer_instance); (case n => infer_instance); (case o => infer_instance))
  | ((with_reducible apply ev_meth0); (case ha => walk_at "ev"); (try (case p => walk_at "sd")))
  | ((with_reducible apply ev_meth1); (case ha => walk_at "ev"); (case hb => walk_at "ev"); (try (case p => walk_at "sd")); (case m' => infer_instance))
  | ((with_reducible apply ev_meth2); (case ha => walk_at "ev"); (case hb => walk_at "ev"); (case hc => walk_at "ev"); (try (case p => walk_at "sd")); (case m' => infer_instance); (case n' => infer_instance))
  | ((with_reducible apply ev_fst); (case ha => walk_at "ev"); (case m => infer_instance))
  | ((with_reducible apply ev_snd); (case ha => walk_at "ev"); (case m => infer_instance))
  | ((with_reducible apply ev_ixL); (case ha => walk_at "ev"); (case hb => walk_at "ev"); (try (case h => walk_at "sd")); (case m => infer_instance))
  | ((with_reducible apply ev_ixT); (case ha => walk_at "ev"); (case hb => walk_at "ev"); (try (case h => walk_at "sd")); (case m => infer_instance))
  | ((with_reducible apply ev_isIntInt); walk_at "ev")
  | ((with_reducible apply ev_isIntBool); walk_at "ev")
  | ((with_reducible apply ev_isTup); walk_at "ev")
  | ((with_reducible apply ev_isLst); walk_at "ev")
  | ((with_reducible apply ev_isStr); walk_at "ev")
  | ((with_reducible apply ev_tupL); (case ha => walk_at "ev"); (case m => infer_instance))
  | ((with_reducible apply ev_listL); (case ha => walk_at "ev"); (case m => infer_instance))
  | ((with_reducible apply ev_listT); (case ha => walk_at "ev"); (case m => infer_instance))
  | ((with_reducible apply ev_tupRg); (case ha => walk_at "ev"); (try (case hn => walk_at "sd")))
  | ((with_reducible apply ev_lstRg); (case ha => walk_at "ev"); (try (case hn => walk_at "sd")))
  | ((with_reducible apply ev_all); walk_at "ev")
  | ((with_reducible apply ev_any); walk_at "ev")
  | ((with_reducible apply ev_sum); walk_at "ev")
  | ((with_reducible apply ev_notV); walk_at "ev")
  | ((with_reducible apply ev_andV); (case h1 => walk_at "ev"); (case h2 => intro hh; clear hh; walk_at "ev"))
  | ((with_reducible apply ev_orV); (case h1 => walk_at "ev"); (case h2 => intro hh; clear hh; walk_at "ev"))
  | ((with_reducible apply ev_cat); (case ha => walk_at "ev"); (case hb => walk_at "ev"); (try (case hz => walk_at "sd")); (case m => infer_instance))
  | ((with_reducible apply ev_lst); (case h => walk_at "el"); (try (case hz => simp only [List.length_cons, List.length_nil, sizeLine_eq]; omega)); (case m => infer_instance))
  | ((with_reducible apply ev_tup); (case h => walk_at "el"); (try (case hz => simp only [List.length_cons, List.length_nil, sizeLine_eq]; omega)); (case m => infer_instance))
  | ((with_reducible apply ev_pr); (case ha => walk_at "ev"); (case hb => walk_at "ev"); (case m => infer_instance); (case n => infer_instance))
  | ((with_reducible apply ev_slL); (case h => walk_at "ev"); (case h1 => walk_at "eo"); (case h2 => walk_at "eo"); (case m => infer_instance))
  | ((with_reducible apply ev_rep1); (case ha => walk_at "ev"); (case hb => walk_at "ev"); (try (case hn => walk_at "sd")); (try (case h0 => walk_at "sd")); (case m => infer_instance))
  | ((with_reducible apply Ev.nat); walk_at "ev"))

abbrev sp_is_whole (T : Tx K mg) : Sp := Sp1 rInt (fun _ => True) rBl (fun _ => true)
theorem ok_is_whole (T : Tx K mg) : FnOk P w K mg base CX0 1 T.a_is_whole T.d_is_whole ["thing"] (sp_is_whole T) := by
  refine T.F_is_whole.ok sc_is_whole (fun vs H Q E h => SpLen.len h) (fun cdv A outer s H vs Q E hr h => ?_)
  obtain ⟨F, v, x, rfl, e, r, -, k⟩ := h
  refine ⟨_, (by exact (pss_one (ps_ret (pe_and (pe_callB (r := rIsi K) call_isi (by rfl) T.z_isinstance (by decide +kernel) (pa_cons (pv 0) (pa_cons (pe_bltn (v := .ty "int") (by rfl) T.z_int (by decide +kernel) rfl) pa_nil))) (pe_one (pe_not (pe_callB (r := rIsi K) call_isi (by rfl) T.z_isinstance (by decide +kernel) (pa_cons (pv 0) (pa_cons (pe_bltn (v := .ty "bool") (by rfl) T.z_bool (by decide +kernel) rfl) pa_nil))))))))), ?_⟩
  try dsimp only [cxOf]
  apply x_ret e
  case h => walk_at "ev"
  exact k

abbrev sp_is_between (T : Tx K mg) : Sp := Sp3 rInt rInt rInt (fun _ _ _ => True) rBl (fun x y z => decide (y ≤ x) && decide (x ≤ z))
theorem ok_is_between (T : Tx K mg) : FnOk P w K mg base CX0 2 T.a_is_between T.d_is_between ["thing", "least", "most"] (sp_is_between T) := by
  refine T.F_is_between.ok sc_is_between (fun vs H Q E h => SpLen.len h) (fun cdv A outer s H vs Q E hr h => ?_)
  obtain ⟨F, v, w, u, x, y, z, rfl, e, r1, r2, r3, -, k⟩ := h
  refine ⟨_, (by exact (pss_one (ps_ret (pe_and (pe_call (ok_is_whole T) (hr.mono (by decide)) rfl T.g_is_whole T.F_is_whole.kp T.b_is_whole .nil pass0 (pa_cons (pv 0) pa_nil)) (pe_one (pe_chain op_le op_le (pv 1) (pv 0) (pv 2))))))), ?_⟩
  try dsimp only [cxOf]
  apply x_ret e
  case h => walk_at "ev"
  intro v F' H' g r
  rw [Bool.true_and] at r
  exact k v F' H' g r

instance {T : Tx K mg} : IsF (rShare T.C_Share) K "top" rInt Rat.num := fld_top T.cl_Share T.na_Share_top
instance {T : Tx K mg} : IsF (rShare T.C_Share) K "bottom" rNat Rat.den := fld_bottom T.cl_Share T.na_Share_bottom
abbrev sp_common (T : Tx K mg) : Sp := Sp2 rInt rInt (fun _ _ => True) rInt (fun a b => (Int.gcd a b : Int))
theorem ok_common (T : Tx K mg) : FnOk P w K mg base CX0 1 T.a_common T.d_common ["one", "other"] (sp_common T) := by
  refine T.F_common.ok sc_common (fun vs H Q E h => SpLen.len h) (fun cdv A outer s H vs Q E hr h => ?_)
  obtain ⟨F, v, w, a, b, rfl, e, r1, r2, -, k⟩ := h
  cases (show v = _ from r1)
  cases (show w = _ from r2)
  have ri : ∀ F (i : Int), rInt F (.int i) i := fun F i => rfl
  refine ⟨_, (by exact (pss_cons (ps_while PassesOwn.never (pt_cmpR op_ne (pv 1) pe_int (nomark _)) (pss_one (ps_par (i := 0) (j := 1) (by rfl) sc_common.nd rfl rfl (by decide) rfl rfl (pa_cons (pv 1) (pa_cons (pe_op op_modN (pv 0) (pv 1)) pa_nil)) (by rfl))))
      (pss_one (ps_ret (pe_callB call_abs (by rfl) T.z_abs (by decide +kernel) (pa_cons (pv 0) pa_nil)))))), ?_⟩
  walk_at "n"
  refine x_while e (fun m σ' F' H' => ∃ i j : Int, σ' = [some (.int i), some (.int j)] ∧ m = j.natAbs ∧ Int.gcd i j = Int.gcd a b ∧ Gr M0 F H F' H') b.natAbs ⟨a, b, rfl, rfl, rfl, .refl e⟩ (fun m _ _ _ => !decide (m = 0)) ?_ ?_ ?_ ?_
  · rintro m σ' F' H' e1 e2 ⟨i, j, rfl, rfl, hg, g⟩
    refine EvT.is (et_test (ev_neI (ev_var rfl (ri _ j)) ev_int)) ?_
    rw [show decide (j = 0) = decide (j.natAbs = 0) from decide_eq_decide.mpr (by omega)]
  · rintro m σ' F' H' F2 H2 g2 ⟨i, j, rfl, rfl, hg, g⟩
    exact ⟨i, j, rfl, rfl, hg, g.trans g2⟩
  · rintro m σ' F' H' F2 H2 e1 g2 hb ⟨i, j, rfl, rfl, hg, g⟩ -
    have hj : j ≠ 0 := fun z => by subst z; cases hb
    refine x_par g2.fh (ev_var rfl (ri _ j)) (ev_modN (ev_var rfl (ri _ i)) (ev_var rfl (ri _ j)) hj) fun v w F3 H3 g3 r3 r4 => ?_
    cases (show v = _ from r3)
    cases (show w = _ from r4)
    exact ⟨F3, _, e1.trans (g2.ff.trans g3.ff), g3.fh, fmod_lt hj, j, i.fmod j, rfl, rfl, by rw [gcd_step, hg], g.trans (g2.trans g3)⟩
  · rintro m σ' F' H' F2 H2 e1 g2 hb ⟨i, j, rfl, rfl, hg, g⟩ -
    have hj : j = 0 := by
      have : j.natAbs = 0 := of_decide_eq_true (by simpa using hb)
      omega
    subst hj
    walk_at "n"
    refine x_ret g2.fh (Ev.is (ev_abs (ev_var rfl (ri _ i))) ?_) fun v F3 H3 g3 r3 => k v F3 H3 (g.trans (g2.trans g3)) r3
    show (i.natAbs : Int) = (Int.gcd a b : Int)
    rw [← hg, Int.gcd_zero_right]
abbrev sp_Share_init (T : Tx K mg) : Sp := SpShare T.C_Share
theorem ok_Share_init (T : Tx K mg) : FnOk P w K mg base CX0 2 T.a_Share_init T.d_Share_init ["self", "top", "bottom"] (sp_Share_init T) := by
  refine T.F_Share_init.ok0 sc_Share_init (fun vs H Q E h => SpLen.len h) (fun cdv A outer s H vs Q E hr h => ?_)
  obtain ⟨F, a, dx, n, d, rfl, e, fa, ha, hd, hz, k⟩ := h
  have va : ∀ F, rRef F (.ref a) a := fun F => rfl
  have ri : ∀ F (i : Int), rInt F (.int i) i := fun F i => rfl
  have hg0 : Int.gcd n d ≠ 0 := fun z => hd (Int.gcd_eq_zero_iff.mp z).2
  have hgle : Int.gcd n d ≤ d.natAbs := Nat.le_of_dvd (by omega) (Int.natAbs_dvd_natAbs.mpr (Int.gcd_dvd_right ..))
  obtain ⟨sn1, sn2⟩ := share_num (n := n) hd
  refine ⟨_, (by exact (pss_cons (ps_if (PW.pt (pw_or (pt_not (pt_val (pe_call (ok_is_whole T) (hr.mono (by decide)) rfl T.g_is_whole T.F_is_whole.kp T.b_is_whole .nil pass0 (pa_cons (pv 1) pa_nil)))) (pw_or (pt_not (pt_val (pe_call (ok_is_whole T) (hr.mono (by decide)) rfl T.g_is_whole T.F_is_whole.kp T.b_is_whole .nil pass0 (pa_cons (pv 2) pa_nil)))) (pw_or1 (pt_cmpR op_eq (pv 2) pe_int (nomark _)))))) (pss_one ps_never) pss_nil)
      (pss_cons (ps_set (i := 3) sc_Share_init.nd rfl (Or.inl rfl) (pe_call (ok_common T) (hr.mono (by decide)) rfl T.g_common T.F_common.kp T.b_common .nil pass0 (pa_cons (pv 1) (pa_cons (pv 2) pa_nil))))
      (pss_cons (ps_if (pt_cmpR op_lt (pv 2) pe_int (nomark _)) (pss_one (ps_set (i := 3) sc_Share_init.nd rfl (Or.inl rfl) (pe_op op_sub pe_int (pv 3)))) pss_nil)
      (pss_cons (kset K (pv 0) (pe_op op_fdivZ (pv 1) (pv 3)) rfl)
      (pss_one (kset K (pv 0) (pe_op op_fdivZ (pv 2) (pv 3)) rfl))))))), ?_⟩
  walk_at "n"
  refine x_if (b := false) e (EvT.is (et_or (et_not (et_B (ev_call1 (ev_var rfl (ri _ n)) trivial))) fun _ => et_or (et_not (et_B (ev_call1 (ev_var rfl (ri _ d)) trivial))) fun _ => et_test (ev_eqI (ev_var rfl (ri _ d)) ev_int)) ?_) (fun z => nomatch z) fun _ F1 H1 g1 => ?_
  · rw [decide_eq_false hd]; rfl
  walk_at "n"
  refine x_set (R := rInt) (x := (Int.gcd n d : Int)) g1.fh (ev_call2 (ev_var rfl (ri _ n)) (ev_var rfl (ri _ d)) trivial) fun v2 F2 H2 g2 r2 => ?_
  cases (show v2 = _ from r2)
  have g12 := g1.trans g2
  have fin : ∀ (b : Int) F3 H3, b = (if d < 0 then 0 - (Int.gcd n d : Int) else (Int.gcd n d : Int)) → Gr M0 F H F3 H3 →
      sFld K (tVar 0) (tOp (rI CDivZ fun i j => .int (i.fdiv j)) (tVar 1) (tVar 3)) "top" { nx := sFld K (tVar 0) (tOp (rI CDivZ fun i j => .int (i.fdiv j)) (tVar 2) (tVar 3)) "bottom" { nx := fun _ H' => Q .non H', rt := Q }, rt := Q } [some (.ref a), some (.int n), some (.int d), some (.int b)] H3 := fun b F3 H3 hb g3 => by
    have hbd : CDivZ n b := divZ (b := 9000) (by rw [hb]; split <;> omega) (Nat.lt_of_le_of_lt (by rw [hb]; split <;> omega) hz) (by omega) (by omega)
    have hbd2 : CDivZ d b := hbd
    refine x_fld g3.fh (ev_fdivZ (ev_var rfl (ri _ n)) (ev_var rfl (ri _ b)) hbd) (ev_var rfl (va _)) (g3.hx _ _ ha) T.cl_Share T.na_Share_top (by decide) fun v4 F4 H4 g4 r4 h4 => ?_
    cases (show v4 = _ from r4)
    have G4 := g3.trans g4
    have f4 : F4 a = none := G4.nn ha fa
    have gg : Gr (El.M1 a) F H F4 (upd H4 a (.ins T.C_Share dx (putF "top" (V.int (n.fdiv b)) []))) := G4.up.set' f4 (.inr ⟨rfl, e.nt ha⟩)
    walk_at "n"
    refine x_fld gg.fh (ev_fdivZ (ev_var rfl (ri _ d)) (ev_var rfl (ri _ b)) hbd2) (ev_var rfl (va _)) upd_same T.cl_Share T.na_Share_bottom (by show 1 < 1000; decide) fun v5 F5 H5 g5 r5 h5 => ?_
    cases (show v5 = _ from r5)
    have g6 := (gg.trans g5.up).set' (o := .ins T.C_Share dx (putF "bottom" (V.int (d.fdiv b)) (putF "top" (V.int (n.fdiv b)) []))) (g5.nn upd_same f4) (.inr ⟨rfl, e.nt ha⟩)
    refine k _ _ (g6.frz upd_same fa (.inr ⟨rfl, e.nt ha⟩) (g5.nn upd_same f4)) ⟨a, dx, rfl, ?_⟩
    rw [upd_same, hb, sn1, sn2]
    rfl
  walk_at "n"
  refine x_if (b := decide (d < 0)) g2.fh (et_test (ev_lt (ev_var rfl (ri _ d)) ev_int)) (fun hb F3 H3 g3 => ?_) (fun hb F3 H3 g3 => ?_)
  · walk_at "n"
    refine x_set g3.fh (ev_sub ev_int (ev_var rfl (ri _ (Int.gcd n d : Int)))) fun v4 F4 H4 g4 r4 => ?_
    cases (show v4 = _ from r4)
    walk_at "n"
    exact fin _ F4 H4 (by rw [if_pos (of_decide_eq_true hb)]) (g12.trans (g3.trans g4))
  · walk_at "n"
    exact fin _ F3 H3 (by rw [if_neg (of_decide_eq_false hb)]) (g12.trans g3)
abbrev sp_Share_eq (T : Tx K mg) : Sp := spEq (RShr T.C_Share)
theorem ok_Share_eq (T : Tx K mg) : FnOk P w K mg base CX0 1 T.a_Share_eq T.d_Share_eq ["self", "other"] (sp_Share_eq T) := by
  refine T.F_Share_eq.ok sc_Share_eq (fun vs H Q E h => SpLen.len h) (fun cdv A outer s H vs Q E hr h => ?_)
  obtain ⟨a, b, rfl, ⟨F, t, e0, r1, r2⟩, k⟩ := h
  refine ⟨_, (by exact (pss_one (ps_ret (pe_and (pe_callB (r := rIsC T.C_Share) (C8.call_isC T.ic_Share) (by rfl) T.z_isinstance (by decide +kernel) (pa_cons (pv 1) (pa_cons (pe_glob (v := .ref T.C_Share) rfl T.g_Share rfl) pa_nil))) (pe_and (pe_cmpR op_eq (kfld K (pv 0) rfl) (kfld K (pv 1) rfl) (nomark _)) (pe_one (pe_cmpR op_eq (kfld K (pv 0) rfl) (kfld K (pv 1) rfl) (nomark _)))))))), ?_⟩
  walk_at "n"
  have ex0 := e0.ex
  have tt0 := e0.tt
  letI noT : LawTabs := ⟨[]⟩
  have e : @ExT noT F H := ⟨ex0, (fun p hp => nomatch hp), tt0⟩
  refine x_ret e (Ev.is (x' := true) (ev_andV (ev_isShare (ev_var rfl r2)) fun _ => ev_andV (ev_eqI (ev_fld (ev_var rfl r1)) (ev_fld (ev_var rfl r2))) fun _ => ev_eqI (ev_fld (ev_var rfl r1)).nat (ev_fld (ev_var rfl r2)).nat) (by simp)) fun v F2 H2 g2 r => ?_
  cases (show v = _ from r)
  exact k _ fun b o hb => g2.hh0 b o (fun z => z) (fun q hq => nomatch hq) hb

abbrev rRows : Rp (List (List Int)) := rLst (rLst rInt)
abbrev sp_with_pivot (T : Tx K mg) : Sp := Sp2 rRows rNat (fun rows k => k < rows.length ∧ rows.length ≤ 1000 ∧ ∀ r ∈ rows, k < r.length) rRows pivM
theorem row_at {rows : List (List Int)} {i : Nat} (h : i < rows.length) : rows[i]? = some (rows.getD i []) := at_getD h
theorem row_mem {rows : List (List Int)} {i : Nat} (h : i < rows.length) : rows.getD i [] ∈ rows := List.mem_of_getElem? (at_getD h)
theorem ok_with_pivot (T : Tx K mg) : FnOk P w K mg base CX0 1 T.a_with_pivot T.d_with_pivot ["rows", "at"] (sp_with_pivot T) := by
  refine T.F_with_pivot.ok sc_with_pivot (fun vs H Q E h => SpLen.len h) (fun cdv A outer s H vs Q E hr h => ?_)
  obtain ⟨F, v, w, rows, n, rfl, e, r1, r2, ⟨h1, h2, h3⟩, k⟩ := h
  cases (show w = _ from r2)
  have ri : ∀ F (i : Int), rInt F (.int i) i := fun F i => rfl
  refine ⟨_, (by exact (pss_cons (ps_set (i := 2) sc_with_pivot.nd rfl (Or.inl rfl) (pe_callTy (r := rListS K) call_list_of (by rfl) T.z_list (by decide +kernel) (pa_cons (pv 0) pa_nil)))
      (pss_cons (ps_for PassesOwn.never rfl (pi_range2 rfl T.z_range (pa_cons (pv 1) (pa_cons (pe_callB (r := rLenS K) call_len_seq (by rfl) T.z_len PySem.boot_len (pa_cons (pv 0) pa_nil)) pa_nil))) (pg_name (i := 3) sc_with_pivot.nd rfl (by first | exact Or.inl rfl | exact Or.inr rfl)) (pss_one (ps_if (pt_cmpR op_ne (pe_ix (r := rIxL K) ix_list (pe_ix (r := rIxL K) ix_list (pv 0) (pv 3) (fun _ _ => rfl)) (pv 1) (fun _ _ => rfl)) pe_int (nomark _)) (pss_cons (ps_asg (pe_tup (pa_cons (pe_ix (r := rIxL K) ix_list (pv 0) (pv 3) (fun _ _ => rfl)) (pa_cons (pe_ix (r := rIxL K) ix_list (pv 0) (pv 1) (fun _ _ => rfl)) pa_nil))) (kptup K (n := 2) rfl (pgs_cons (pg_sub (pv 2) (pv 1) set_list) (pgs_cons (pg_sub (pv 2) (pv 3) set_list) pgs_nil))))
      (pss_one (ps_ret (pv 2)))) pss_nil)))
      (pss_one (ps_ret (pv 2)))))), ?_⟩
  walk_at "n"
  refine x_listM e (ev_var rfl r1) fun vs l F1 H1 g1 pv hl => ?_
  have hl0 : H l = none := Gr.free g1 hl
  have fl0 : F l = none := e.free hl0
  have fl1 : F1 l = none := g1.fh.free hl
  have G1 : Gr M0 F H F1 (upd H1 l (.lst vs)) := g1.trans (.loc g1.fh hl)
  have hvl := pv.length
  walk_at "n"
  refine x_forR2 (a := n) (b := rows.length) G1.fh (ev_var rfl (ri _ (n : Int))) (ev_lenL (ev_var rfl (Mn.mono g1.ff r1))) (by omega) (by omega)
    (fun i σ' F' H' => Gr M0 F H F' H' ∧ Ex F1 F' ∧ F' l = none ∧ H' l = some (.lst vs) ∧ (∀ p, p < i → pivAt rows n p = false) ∧ ∃ y, σ' = [some v, some (.int (n : Int)), some (.ref l), y])
    (fun F2 H2 g2 => ⟨G1.trans g2, g2.ff, g2.nn upd_same fl1, g2.hx _ _ upd_same, fun p hp => absurd hp (Nat.not_lt_zero p), _, rfl⟩) ?_ ?_
  · rintro F2 e2 i σ' F' H' hi e3 e4 ⟨g, ex1, fl, hL, hb, y, rfl⟩
    have hrow := row_at (rows := rows) hi
    have hlen := h3 _ (row_mem hi)
    have hent : (rows.getD (n + i) [])[n]? = some ((rows.getD (n + i) []).getD n 0) := at_getD hlen
    walk_at "n"
    refine x_if (b := pivAt rows n i) e4 (EvT.is (et_test (ev_neI (ev_ixL (ev_ixL (ev_var rfl (Mn.mono g.ff r1)) (ev_var rfl (ri _ ((n + i : Nat) : Int))) (atI_natL hrow)) (ev_var rfl (ri _ (n : Int))) (atI_natL hent)) ev_int)) rfl) (fun hbb F3 H3 g3 => ?_) (fun hbb F3 H3 g3 => ?_)
    · have G3 := g.trans g3
      have hL3 := g3.hx _ _ hL
      have fl3 := g3.nn hL fl
      walk_at "n"
      refine x_swapI (l := l) (vs := vs) (p := n) (q := n + i) (x := rows.getD (n + i) []) (y := rows.getD n []) (R := rLst rInt) (S := rLst rInt) g3.fh (ev_ixL (ev_var rfl (Mn.mono G3.ff r1)) (ev_var rfl (ri _ ((n + i : Nat) : Int))) (atI_natL hrow)) (ev_ixL (ev_var rfl (Mn.mono G3.ff r1)) (ev_var rfl (ri _ (n : Int))) (atI_natL (row_at h1))) fl3 hL3 (by omega) (by omega)
        (fun _ _ q => ⟨_, rfl, q⟩) (fun _ _ q => ⟨_, rfl, q⟩) (fun _ _ q => ⟨_, rfl, q⟩) (fun _ _ q => ⟨_, rfl, q⟩) fun v4 w4 F4 H4 g4 r4 q4 hL4 => ?_
      have fl4 := g4.nn hL3 fl3
      have G4 := ((G3.trans g4).set' (o := .lst (vs.set n v4)) fl4 (.inl hl0)).set' (o := .lst ((vs.set n v4).set (n + i) w4)) fl4 (.inl hl0)
      have hfind : pivM rows n = swapM rows n (n + i) := by
        unfold pivM
        rw [L2.find_range (pivAt rows n) (show i < rows.length - n by omega) hbb hb]
      walk_at "n"
      refine x_retM (R := rLst rInt) (xs := swapM rows n (n + i)) (Q := Q) G4 rfl upd_same fl0 hl0 ?_ fun F5 g5 r5 => k _ F5 _ g5 (by rw [hfind]; exact r5)
      exact Paired.set q4 _ (Paired.set r4 _ (Paired.up (ex1.trans (g3.ff.trans g4.ff)) pv))
    · walk_at "n"
      refine ⟨F3, e3.trans g3.ff, g3.fh, g.trans g3, ex1.trans g3.ff, g3.nn hL fl, g3.hx _ _ hL, fun p hp => ?_, _, rfl⟩
      by_cases z : p = i
      · rw [z]; exact hbb
      · exact hb p (by omega)
  · rintro σ' F' H' e1 e2 ⟨g, ex1, fl, hL, hb, y, rfl⟩
    have hfind : pivM rows n = rows := by
      unfold pivM
      rw [L2.find_range_none (pivAt rows n) fun j hj => hb j hj]
    walk_at "n"
    exact x_retM (R := rLst rInt) (xs := rows) (Q := Q) g rfl hL fl0 hl0 (Paired.up ex1 pv) fun F5 g5 r5 => k _ F5 _ g5 (by rw [hfind]; exact r5)
abbrev sp_cleared (T : Tx K mg) : Sp := Sp3 rRows rNat rInt (fun rows k last => k < rows.length ∧ rows.length ≤ 1000 ∧ (∀ r ∈ rows, k < r.length ∧ r.length ≤ 10000 ∧ ∀ x ∈ r, x.natAbs < 2 ^ 4000) ∧ last ≠ 0 ∧ last.natAbs < 2 ^ 4000) rRows clearM
theorem ok_cleared (T : Tx K mg) : FnOk P w K mg base CX0 1 T.a_cleared T.d_cleared ["rows", "at", "last"] (sp_cleared T) := by
  refine T.F_cleared.ok sc_cleared (fun vs H Q E h => SpLen.len h) (fun cdv A outer s H vs Q E hr h => ?_)
  obtain ⟨F, v, w, u, rows, n, last, rfl, e, r1, r2, r3, ⟨h1, h2, h3, h4, h5⟩, k⟩ := h
  cases (show w = _ from r2)
  cases (show u = _ from r3)
  have ri : ∀ F (i : Int), rInt F (.int i) i := fun F i => rfl
  refine ⟨_, (by exact (pss_cons (ps_set (i := 3) sc_cleared.nd rfl (Or.inr rfl) (pe_ix (r := rIxL K) ix_list (pv 0) (pv 1) (fun _ _ => rfl)))
      (pss_cons (ps_set (i := 4) sc_cleared.nd rfl (Or.inl rfl) (pe_lst pa_nil))
      (pss_cons (ps_for PassesOwn.never rfl (kenum K rfl T.z_enumerate (pa_cons (pv 0) pa_nil)) (kptup K (n := 2) rfl (pgs_cons (pg_name (i := 5) sc_cleared.nd rfl (by first | exact Or.inl rfl | exact Or.inr rfl)) (pgs_cons (pg_name (i := 6) sc_cleared.nd rfl (by first | exact Or.inl rfl | exact Or.inr rfl)) pgs_nil))) (pss_one (ps_if (pt_cmpR op_eq (pv 5) (pv 1) (nomark _)) (pss_one (ps_expr (kbm K PySem.F.plainAttrs_list PySem.F.slot_list_append PySem.F.type_list_append mt_append (pv 4) (pa_cons (pv 6) pa_nil)))) (pss_one (ps_expr (kbm K PySem.F.plainAttrs_list PySem.F.slot_list_append PySem.F.type_list_append mt_append (pv 4) (pa_cons (pe_lc (own := [("one", 7), ("other", 8)]) (g := gTup K 2 (gCons (gName 7) (gCons (gName 8) gNil))) (tt := tYes) rfl sc_cleared.nd (kzip (K := K) rfl T.z_zip (pa_cons (pv 6) (pa_cons (pv 3) pa_nil))) (blkOk_by (own := [("one", 7), ("other", 8)]) (N := N_cleared) (sc := defScope s_cleared) (by decide +kernel)) (fun _ _ _ _ _ => (kptup K (n := 2) rfl (pgs_cons (pg_name (i := 7) sc_cleared.nd rfl (by first | exact Or.inl rfl | exact Or.inr rfl)) (pgs_cons (pg_name (i := 8) sc_cleared.nd rfl (by first | exact Or.inl rfl | exact Or.inr rfl)) pgs_nil)))) (fun _ _ _ _ _ => pts_nil) (fun _ _ _ _ _ => (pe_op op_fdivZ (pe_op op_sub (pe_op op_mulW (pe_ix (r := rIxL K) ix_list (pv 3) (pv 1) (fun _ _ => rfl)) (pv 7)) (pe_op op_mulW (pe_ix (r := rIxL K) ix_list (pv 6) (pv 1) (fun _ _ => rfl)) (pv 8))) (pv 2)))) pa_nil)))))))
      (pss_one (ps_ret (pv 4))))))), ?_⟩
  walk_at "n"
  refine x_set (R := rLst rInt) (x := rows.getD n []) e (ev_ixL (ev_var rfl r1) (ev_var rfl (ri _ (n : Int))) (atI_natL (row_at h1))) fun v1 F1 H1 g1 q1 => ?_
  walk_at "n"
  refine x_nil g1.fh fun l hl => ?_
  have hl0 : H l = none := Gr.free g1 hl
  have fl0 : F l = none := e.free hl0
  have fl1 : F1 l = none := g1.fh.free hl
  have G1 : Gr M0 F H F1 (upd H1 l (.lst [])) := g1.trans (.loc g1.fh hl)
  obtain ⟨m1, m2, m3⟩ := h3 _ (row_mem h1)
  let f : Nat → List Int := fun i => if i = n then rows.getD i [] else ((rows.getD i []).zip (rows.getD n [])).map fun p => ((rows.getD n []).getD n 0 * p.1 - (rows.getD i []).getD n 0 * p.2).fdiv last
  walk_at "n"
  refine x_forE G1.fh (ev_var rfl (Mn.mono g1.ff r1)) (fun i σ' F' H' => Gr M0 F H F' H' ∧ Ex F1 F' ∧ F' l = none ∧ (∃ vs, H' l = some (.lst vs) ∧ Paired (rLst rInt F') vs ((List.range i).map f)) ∧ ∃ y1 y2 y3 y4, σ' = [some v, some (.int (n : Int)), some (.int last), some v1, some (.ref l), y1, y2, y3, y4])
    (fun F2 H2 g2 => ⟨G1.trans g2, g2.ff, g2.nn upd_same fl1, ⟨[], g2.hx _ _ upd_same, .nil⟩, _, _, _, _, rfl⟩) ?_ ?_ ?_
  · rintro i σ' F' H' F2 H2 g2 ⟨g, ex1, fl, ⟨vs, hL, pv⟩, y1, y2, y3, y4, rfl⟩
    exact ⟨g.trans g2, ex1.trans g2.ff, g2.nn hL fl, ⟨vs, g2.hx _ _ hL, Paired.up g2.ff pv⟩, _, _, _, _, rfl⟩
  · rintro F2 e2 i row v5 σ' F' H' hx e3 e4 rx ⟨g, ex1, fl, ⟨vs, hL, pv⟩, y1, y2, y3, y4, rfl⟩
    have hi : i < rows.length := (List.getElem?_eq_some_iff.mp hx).1
    have erow : rows.getD i [] = row := getD_eq hx
    have hvl : vs.length = i := by rw [pv.length, List.length_map, List.length_range]
    have app : ∀ (D : Ends) (te : TE) (F3 H3 : Hp), (∀ σ2 H2, (∃ F2', Ex F2 F2' ∧ ExT F2' H2 ∧ (Gr M0 F H F2' H2 ∧ Ex F1 F2' ∧ F2' l = none ∧ (∃ vs, H2 l = some (.lst vs) ∧ Paired (rLst rInt F2') vs ((List.range (i + 1)).map f)) ∧ ∃ y1 y2 y3 y4, σ2 = [some v, some (.int (n : Int)), some (.int last), some v1, some (.ref l), y1, y2, y3, y4])) → D.nx σ2 H2) → Gr M0 F' H' F3 H3 → Ev (rLst rInt) te [some v, some (.int (n : Int)), some (.int last), some v1, some (.ref l), some (.int (i : Int)), some v5, y3, y4] F3 H3 (f i) →
        tDrop (tBM K "list" rAppend (tVar 4) (tCons te tNil)) D [some v, some (.int (n : Int)), some (.int last), some v1, some (.ref l), some (.int (i : Int)), some v5, y3, y4] H3 := fun D te F3 H3 hD g3 he => by
      have hL3 := g3.hx _ _ hL
      have fl3 := g3.nn hL fl
      refine x_app (R := rLst rInt) (x := f i) g3.fh (ev_var rfl (show rRef _ _ l from rfl)) hL3 he (by rw [hvl, sizeLine_eq]; omega) fun v6 F6 H6 g6 r6 h6 => ?_
      have fl6 := g6.nn hL3 fl3
      have G6 := (g.trans (g3.trans g6)).set' (o := .lst (vs ++ [v6])) fl6 (.inl hl0)
      refine hD _ _ ⟨F6, e3.trans (g3.ff.trans g6.ff), G6.fh, G6, ex1.trans (g3.ff.trans g6.ff), fl6, ⟨_, upd_same, ?_⟩, _, _, _, _, rfl⟩
      rw [List.range_succ, List.map_append]
      exact (Paired.up (g3.ff.trans g6.ff) pv).snoc r6
    walk_at "n"
    refine x_if (b := decide (i = n)) e4 (EvT.is (et_test (ev_eqI (ev_var rfl (ri _ (i : Int))) (ev_var rfl (ri _ (n : Int))))) (decide_eq_decide.mpr (by omega))) (fun hbb F3 H3 g3 => ?_) (fun hbb F3 H3 g3 => ?_)
    · have z : i = n := of_decide_eq_true hbb
      have ef : f i = row := by show (if i = n then rows.getD i [] else _) = _; rw [if_pos z, erow]
      exact app _ _ F3 H3 (fun _ _ h => h) g3 (Ev.is (ev_var rfl (Mn.mono g3.ff rx)) ef.symm)
    · have z : ¬ i = n := of_decide_eq_false hbb
      have ef : f i = (row.zip (rows.getD n [])).map fun p => ((rows.getD n []).getD n 0 * p.1 - row.getD n 0 * p.2).fdiv last := by show (if i = n then rows.getD i [] else _) = _; rw [if_neg z, erow]
      obtain ⟨c1, c2, c3⟩ := h3 row (mem_of_at hx)
      have rx3 := Mn.mono g3.ff rx
      have q13 := Mn.mono (ex1.trans g3.ff) q1
      refine app _ _ F3 H3 (fun _ _ h => h) g3 (Ev.is (ev_lcZm (R := rInt) (S := rInt) (T := rInt) _ (ev_var rfl rx3) (ev_var rfl q13) (by omega) (fun v w => rfl) fun t p v7 w7 F7 H7 hp g7 r7 q7 => ?_) ef.symm)
      cases (show v7 = _ from r7)
      cases (show w7 = _ from q7)
      obtain ⟨hp1, hp2⟩ := List.getElem?_zip_eq_some.mp hp
      have b1 := c3 p.1 (mem_of_at hp1)
      have b2 := m3 p.2 (mem_of_at hp2)
      have b3 := m3 _ (mem_of_at (at_getD (d := 0) m1))
      have b4 := c3 _ (mem_of_at (at_getD (d := 0) c1))
      exact ev_fdivZ (ev_sub (ev_mulZ (ev_ixL (ev_var rfl (Mn.mono g7.ff q13)) (ev_var rfl (ri _ (n : Int))) (atI_natL (at_getD m1))) (ev_var rfl (ri _ p.1)) b3 b1 (by omega) (by omega) (by omega)) (ev_mulZ (ev_ixL (ev_var rfl (Mn.mono g7.ff rx3)) (ev_var rfl (ri _ (n : Int))) (atI_natL (at_getD c1))) (ev_var rfl (ri _ p.2)) b4 b2 (by omega) (by omega) (by omega))) (ev_var rfl (ri _ last)) (divZ h4 h5 (by omega) (by omega))
  · rintro σ' F' H' e1 e2 ⟨g, ex1, fl, ⟨vs, hL, pv⟩, y1, y2, y3, y4, rfl⟩
    walk_at "n"
    exact x_retM (R := rLst rInt) (Q := Q) g rfl hL fl0 hl0 pv fun F5 g5 r5 => k _ F5 _ g5 r5
theorem mat_wide {n W : Nat} {f : Mx} {r : List Int} (h : r ∈ matL n W f) : r.length = W := by
  unfold matL at h
  obtain ⟨i, _, rfl⟩ := List.mem_map.mp h
  rw [List.length_map, List.length_range]
theorem mat_all {n W : Nat} {f : Mx} {P : Int → Prop} (h : ∀ j i, j < W → i < n → P (f j i)) {r : List Int} (hr : r ∈ matL n W f) : ∀ x ∈ r, P x := fun x hx => by
  unfold matL at hr
  obtain ⟨i, hi, rfl⟩ := List.mem_map.mp hr
  obtain ⟨j, hj, rfl⟩ := List.mem_map.mp hx
  exact h j i (List.mem_range.mp hj) (List.mem_range.mp hi)
def SolvOk (rows : List (List Int)) : Prop := ∃ W M, Solv rows W M
open Classical in
noncomputable def solvM (rows : List (List Int)) : List (List Rat) := if h : SolvOk rows then solR rows h.choose else []
abbrev sp_solved (T : Tx K mg) : Sp := fun vs H Q _ => ∃ F v rows W M, vs = [v] ∧ ExT F H ∧ rRows F v rows ∧ Solv rows W M ∧ ∀ r F' H', Gr M0 F H F' H' → rLst (rLst (rShare T.C_Share)) F' r (solR rows W) → Q r H'
instance {T : Tx K mg} : SpLen (sp_solved T) 1 := ⟨fun ⟨_, _, _, _, _, h, _⟩ => by rw [h]; rfl⟩
theorem ok_solved (T : Tx K mg) : FnOk P w K mg base CX0 4 T.a_solved T.d_solved ["rows"] (sp_solved T) := by
  refine T.F_solved.ok sc_solved (fun vs H Q E h => SpLen.len h) (fun cdv A outer s H vs Q E hr h => ?_)
  obtain ⟨F, v, rows, W, M, rfl, e, r1, hs, k⟩ := h
  have ri : ∀ F (i : Int), rInt F (.int i) i := fun F i => rfl
  have hle := hs.le
  have hfew := hs.few
  have hwf := hs.wfew
  refine ⟨_, (by exact (pss_cons (ps_set (i := 1) sc_solved.nd rfl (Or.inr rfl) (pe_callB (r := rLenS K) call_len_seq (by rfl) T.z_len PySem.boot_len (pa_cons (pv 0) pa_nil)))
      (pss_cons (ps_set (i := 2) sc_solved.nd rfl (Or.inl rfl) pe_int)
      (pss_cons (ps_for PassesOwn.never rfl (pi_range1 rfl T.z_range (pa_cons (pv 1) pa_nil)) (pg_name (i := 3) sc_solved.nd rfl (by first | exact Or.inl rfl | exact Or.inr rfl)) (pss_cons (ps_set (i := 0) sc_solved.nd rfl (Or.inr rfl) (pe_call (ok_with_pivot T) (hr.mono (by decide)) rfl T.g_with_pivot T.F_with_pivot.kp T.b_with_pivot .nil pass0 (pa_cons (pv 0) (pa_cons (pv 3) pa_nil))))
      (pss_cons (ps_set (i := 0) sc_solved.nd rfl (Or.inr rfl) (pe_call (ok_cleared T) (hr.mono (by decide)) rfl T.g_cleared T.F_cleared.kp T.b_cleared .nil pass0 (pa_cons (pv 0) (pa_cons (pv 3) (pa_cons (pv 2) pa_nil)))))
      (pss_one (ps_set (i := 2) sc_solved.nd rfl (Or.inl rfl) (pe_ix (r := rIxL K) ix_list (pe_ix (r := rIxL K) ix_list (pv 0) (pv 3) (fun _ _ => rfl)) (pv 3) (fun _ _ => rfl)))))))
      (pss_one (ps_ret (pe_lc (own := [("k", 5)]) (g := gName 5) (tt := tYes) rfl sc_solved.nd (pi_range1 rfl T.z_range (pa_cons (pv 1) pa_nil)) (blkOk_by (own := [("k", 5)]) (N := N_solved) (sc := defScope s_solved) (by decide +kernel)) (fun _ _ _ _ _ => (pg_name (i := 5) sc_solved.nd rfl (by first | exact Or.inl rfl | exact Or.inr rfl))) (fun _ _ _ _ _ => pts_nil) (fun _ _ _ _ _ => (pe_lc (own := [("right", 4)]) (g := gName 4) (tt := tYes) rfl sc_solved.nd (klist K (pe_slice (r := rSlL K) sl_list (pe_ix (r := rIxL K) ix_list (pv 0) (pv 5) (fun _ _ => rfl)) (po_some (pv 1)) po_none)) (blk_in (blkOk_by (own := [("right", 4)]) (N := N_solved) (by decide +kernel))) (fun _ _ _ _ _ => (pg_name (i := 4) sc_solved.nd rfl (by first | exact Or.inl rfl | exact Or.inr rfl))) (fun _ _ _ _ _ => pts_nil) (fun _ _ _ _ _ => (pe_make T.mk_Share (ok_Share_init T) (hr.mono (by decide)) rfl T.g_Share (T.b_Share_init).ok (T.b_Share_init).vs pass0 (pa_cons (pv 4) (pa_cons (pe_ix (r := rIxL K) ix_list (pe_ix (r := rIxL K) ix_list (pv 0) (pv 5) (fun _ _ => rfl)) (pv 5) (fun _ _ => rfl)) pa_nil))))))))))))), ?_⟩
  walk_at "n"
  refine x_set (R := rInt) (x := (rows.length : Int)) e (ev_lenL (ev_var rfl r1)) fun v1 F1 H1 g1 q1 => ?_
  cases (show v1 = _ from q1)
  walk_at "n"
  refine x_set (R := rInt) (x := (1 : Int)) g1.fh ev_int fun v2 F2 H2 g2 q2 => ?_
  cases (show v2 = _ from q2)
  have g12 := g1.trans g2
  walk_at "n"
  refine x_forR (n := rows.length) g2.fh (ev_var rfl (ri _ (rows.length : Int))) (by omega)
    (fun i σ' F' H' => Gr M0 F H F' H' ∧ ∃ u A y1 y2 y3, Mid rows W M i A ∧ rRows F' u (matL rows.length W (el A i)) ∧ σ' = [some u, some (.int (rows.length : Int)), some (.int (piv A i)), y1, y2, y3])
    (fun F3 H3 g3 => ⟨g12.trans g3, v, _, _, _, _, mid0 hs, by
      have := Mn.mono (g12.ff.trans g3.ff) r1
      rw [matL_of hs.wide] at this
      exact this, rfl⟩) ?_ ?_
  · rintro F3 e3 i σ' F' H' hi e4 e5 ⟨g, u, A, y1, y2, y3, hm, ru, rfl⟩
    obtain ⟨B, hB, p1, p2, p3⟩ := mid_step hs hm hi
    have hB0 : Mid rows W M i B := ⟨fun m h => hB.piv0 m (by omega), hB.sur, hB.small⟩
    walk_at "n"
    refine x_set (R := rRows) (x := matL rows.length W (el B i)) e5 (Ev.is (ev_call2 (ev_var rfl ru) (ev_var rfl (show rNat _ _ i from rfl)) ⟨by rw [matL_len]; exact hi, by rw [matL_len]; exact hfew, fun r hr => by rw [mat_wide hr]; omega⟩) p1) fun v6 F6 H6 g6 q6 => ?_
    walk_at "n"
    refine x_set (R := rRows) (x := matL rows.length W (el B (i + 1))) g6.fh (Ev.is (ev_call3 (ev_var rfl q6) (ev_var rfl (show rNat _ _ i from rfl)) (ev_var rfl (ri _ (piv A i))) ⟨by rw [matL_len]; exact hi, by rw [matL_len]; exact hfew, fun r hr => ⟨by rw [mat_wide hr]; omega, by rw [mat_wide hr]; exact hwf, mat_all (fun j i' hj hi' => mid_abs hs hB0 (by omega) hj hi') hr⟩, hm.piv0 i (Nat.le_refl _), piv_abs hs hm (by omega)⟩) p3) fun v7 F7 H7 g7 q7 => ?_
    have hrow : (matL rows.length W (el B (i + 1)))[i]? = some ((matL rows.length W (el B (i + 1))).getD i []) := row_at (by rw [matL_len]; exact hi)
    have hent : ((matL rows.length W (el B (i + 1))).getD i [])[i]? = some (piv B (i + 1)) := by
      rw [at_getD (d := 0) (by rw [mat_wide (row_mem (by rw [matL_len]; exact hi))]; omega), matL_get hi (by omega), el_succ, if_pos rfl]
      rfl
    walk_at "n"
    refine x_set (R := rInt) (x := piv B (i + 1)) g7.fh (ev_ixL (ev_ixL (ev_var rfl q7) (ev_var rfl (ri _ (i : Int))) (atI_natL hrow)) (ev_var rfl (ri _ (i : Int))) (atI_natL hent)) fun v8 F8 H8 g8 q8 => ?_
    cases (show v8 = _ from q8)
    exact ⟨F8, e4.trans (g6.ff.trans (g7.ff.trans g8.ff)), g8.fh, g.trans (g6.trans (g7.trans g8)), v7, B, _, _, _, hB, Mn.mono g8.ff q7, rfl⟩
  · rintro σ' F' H' e1 e2 ⟨g, u, A, y1, y2, y3, hm, ru, rfl⟩
    obtain ⟨d1, d2⟩ := mid_end hs hm
    walk_at "n"
    refine x_ret (R := rLst (rLst (rShare T.C_Share))) e2 (Ev.is (ev_lcRm (S := rLst (rShare T.C_Share)) (fun i => (List.range (W - rows.length)).map fun c => Rat.divInt (el A rows.length (rows.length + c) i) (piv A rows.length)) (ev_var rfl (ri _ (rows.length : Int))) (by omega) (fun v => rfl) fun i F5 H5 hi g5 => ?_) d2) fun v' F6 H6 g6 r6 => k v' F6 H6 (g.trans g6) r6
    have ru5 := Mn.mono g5.ff ru
    have hrow : (matL rows.length W (el A rows.length))[i]? = some ((List.range W).map fun j => el A rows.length j i) := by
      rw [row_at (by rw [matL_len]; exact hi), matL_row hi]
    have hent : ((List.range W).map fun j => el A rows.length j i)[i]? = some (piv A rows.length) := by
      rw [List.getElem?_map, List.getElem?_range (by omega)]
      show some (el A rows.length i i) = _
      rw [d1 i hi]
    have hdrop : ((List.range W).map fun j => el A rows.length j i).drop rows.length = (List.range (W - rows.length)).map fun c => el A rows.length (rows.length + c) i := by
      refine ext_getD 0 (by rw [List.length_drop, List.length_map, List.length_map, List.length_range, List.length_range]) fun c hc => ?_
      rw [List.length_drop, List.length_map, List.length_range] at hc
      rw [getD_range hc, List.getD_eq_getElem?_getD, List.getElem?_drop, List.getElem?_map, List.getElem?_range (by omega)]
      rfl
    refine Ev.is (ev_lcm (R := rInt) (S := rShare T.C_Share) (fun x => Rat.divInt x (piv A rows.length)) (Ev.is (ev_slL (lo := some (rows.length : Int)) (hi := none) (ev_ixL (ev_var rfl ru5) (ev_var rfl (ri _ (i : Int))) (atI_natL hrow)) (eo_some (ev_var rfl (ri _ (rows.length : Int)))) eo_none) (by rw [cut_from, hdrop])) (by rw [List.length_map, List.length_range]; omega) (fun v => rfl) fun c x v7 F7 H7 hx g7 r7 => ?_) (by rw [List.map_map]; rfl)
    cases (show v7 = _ from r7)
    exact ev_Share (ev_var rfl (ri _ x)) (ev_ixL (ev_ixL (ev_var rfl (Mn.mono g7.ff ru5)) (ev_var rfl (ri _ (i : Int))) (atI_natL hrow)) (ev_var rfl (ri _ (i : Int))) (atI_natL hent)) (hm.piv0 _ (Nat.le_refl _)) (Nat.lt_of_lt_of_le (piv_abs hs hm (Nat.le_refl _)) (Nat.pow_le_pow_right (by omega) (by omega)))
theorem ev_solved {T : Tx K mg} {σ : St} {F H : Hp} {ta : TE} {E : XK} {rows : List (List Int)} {W M : Nat} (ha : Ev rRows ta σ F H rows) (hs : Solv rows W M) : Ev (rLst (rLst (rShare T.C_Share))) (tCall (sp_solved T) [] E (tCons ta tNil)) σ F H (solR rows W) := fun F1 H1 g1 Q q =>
  ha F1 H1 g1 _ fun v F2 H2 g2 r => ⟨F2, v, rows, W, M, rfl, g2.fh, r, hs, fun w F' H' g k => q w F' H' (g2.trans g) k⟩

instance {T : Tx K mg} : IsF (rTurns T.C_Turns) K "many" rNat Tn.many := fld_many T.cl_Turns T.na_Turns_many
instance {T : Tx K mg} : IsF (rTurns T.C_Turns) K "maps" (rLst (rTup rNat)) Tn.maps := fld_maps T.cl_Turns T.na_Turns_maps
abbrev sp_is_map (T : Tx K mg) : Sp := Sp2 (rTup rNat) rNat (fun m n => IsMap n m ∧ n ≤ 1000) rBl (fun _ _ => true)
theorem ok_is_map (T : Tx K mg) : FnOk P w K mg base CX0 3 T.a_is_map T.d_is_map ["thing", "many"] (sp_is_map T) := by
  refine T.F_is_map.ok sc_is_map (fun vs H Q E h => SpLen.len h) (fun cdv A outer s H vs Q E hr h => ?_)
  obtain ⟨F, v, w, m, n, rfl, e, r1, r2, ⟨p, pn⟩, k⟩ := h
  cases (show w = _ from r2)
  refine ⟨_, (by exact (pss_one (ps_ret (pe_and (pe_callB (r := rIsi K) call_isi (by rfl) T.z_isinstance (by decide +kernel) (pa_cons (pv 0) (pa_cons (pe_bltn (v := .ty "tuple") (by rfl) T.z_tuple (by decide +kernel) rfl) pa_nil))) (pe_and (pe_cmpR op_eq (pe_callB (r := rLenS K) call_len_seq (by rfl) T.z_len PySem.boot_len (pa_cons (pv 0) pa_nil)) (pv 1) (nomark _)) (pe_one (pe_callB (r := rAll K) (cr_all rfl) (by rfl) T.z_all (by decide +kernel) (pa_cons (pe_lc (own := [("to", 2)]) (g := gName 2) (tt := tYes) rfl sc_is_map.nd (ktup K (pv 0)) (blkOk_by (own := [("to", 2)]) (N := N_is_map) (sc := defScope s_is_map) (by decide +kernel)) (fun _ _ _ _ _ => (pg_name (i := 2) sc_is_map.nd rfl (by first | exact Or.inl rfl | exact Or.inr rfl))) (fun _ _ _ _ _ => pts_nil) (fun _ _ _ _ _ => (pe_call (ok_is_between T) (hr.mono (by decide)) rfl T.g_is_between T.F_is_between.kp T.b_is_between .nil pass0 (pa_cons (pv 2) (pa_cons pe_int (pa_cons (pe_op op_sub (pv 1) pe_int) pa_nil)))))) pa_nil)))))))), ?_⟩
  try dsimp only [cxOf]
  apply x_ret e
  case h =>
    refine ev_andV (a := true) (b := true) ?_ fun _ => ev_andV (a := true) (b := true) ?_ fun _ => ?_
    · walk_at "ev"
    · exact (Ev.is (ev_eqI (ev_lenT (ev_var rfl r1)) (ev_var rfl rfl)) (by rw [p.1]; simp))
    · refine (ev_all (ev_lcTm (R := rNat) (fun _ => true) (ev_var rfl r1) (by rw [p.1]; omega) (fun v => rfl) ?_)).is (List.all_eq_true.mpr fun b hb => ?_)
      · intro i x v F1 H1 hx g r
        cases (show v = _ from r)
        have := p.2 x (mem_of_at hx)
        apply Ev.is
        · walk_at "ev"
        · rw [decide_eq_true (by omega), decide_eq_true (by omega)] <;> rfl
      · obtain ⟨x, hx, rfl⟩ := List.mem_map.mp hb
        rfl
  exact k
abbrev sp_Turns_init (T : Tx K mg) : Sp := SpTurns T.C_Turns
theorem ok_Turns_init (T : Tx K mg) : FnOk P w K mg base CX0 4 T.a_Turns_init T.d_Turns_init ["self", "many", "maps"] (sp_Turns_init T) := by
  refine T.F_Turns_init.ok sc_Turns_init (fun vs H Q E h => SpLen.len h) (fun cdv A outer s H vs Q E hr h => ?_)
  obtain ⟨F, a, dx, l, t, rfl, e, fa, ha, rl, k⟩ := h
  have t0 := t.h0
  have t1 := t.h1
  have t2 := t.h2
  have t3 := t.h3
  refine ⟨_, (by exact (pss_cons (ps_if (pt_not (pt_val (pe_call (ok_is_between T) (hr.mono (by decide)) rfl T.g_is_between T.F_is_between.kp T.b_is_between .nil pass0 (pa_cons (pv 1) (pa_cons pe_int (pa_cons (pe_glob (v := .int 32) rfl T.c_MOST_PLACES ⟨_, rfl⟩) pa_nil)))))) (pss_one ps_never) pss_nil)
      (pss_cons (ps_if (PW.pt (pw_or (pt_not (pt_val (pe_callB (r := rIsi K) call_isi (by rfl) T.z_isinstance (by decide +kernel) (pa_cons (pv 2) (pa_cons (pe_bltn (v := .ty "list") (by rfl) T.z_list (by decide +kernel) rfl) pa_nil))))) (pw_or1 (pt_not (pt_chain op_le op_le pe_int (pe_callB (r := rLenS K) call_len_seq (by rfl) T.z_len PySem.boot_len (pa_cons (pv 2) pa_nil)) (pe_glob (v := .int 200) rfl T.c_MOST_SIGNS ⟨_, rfl⟩)))))) (pss_one ps_never) pss_nil)
      (pss_cons (ps_if (pt_not (pt_val (pe_callB (r := rAll K) (cr_all rfl) (by rfl) T.z_all (by decide +kernel) (pa_cons (pe_lc (own := [("one", 3)]) (g := gName 3) (tt := tYes) rfl sc_Turns_init.nd (klist K (pv 2)) (blkOk_by (own := [("one", 3)]) (N := N_Turns_init) (sc := defScope s_Turns_init) (by decide +kernel)) (fun _ _ _ _ _ => (pg_name (i := 3) sc_Turns_init.nd rfl (by first | exact Or.inl rfl | exact Or.inr rfl))) (fun _ _ _ _ _ => pts_nil) (fun _ _ _ _ _ => (pe_call (ok_is_map T) (hr.mono (by decide)) rfl T.g_is_map T.F_is_map.kp T.b_is_map .nil pass0 (pa_cons (pv 3) (pa_cons (pv 1) pa_nil))))) pa_nil)))) (pss_one ps_never) pss_nil)
      (pss_cons (kset K (pv 0) (pv 1) rfl)
      (pss_one (kset K (pv 0) (pe_callTy (r := rListS K) call_list_of (by rfl) T.z_list (by decide +kernel) (pa_cons (pv 2) pa_nil)) rfl))))))), ?_⟩
  try dsimp only [cxOf]
  refine x_if (b := false) e (EvT.is (b := !true) ?_ rfl) (fun z => nomatch z) fun _ F1 H1 g1 => ?_
  · apply et_not
    apply et_B
    apply Ev.is
    · walk_at "ev"
    · rw [decide_eq_true (by omega), decide_eq_true (by omega)] <;> rfl
  walk_at "n"
  refine x_if (b := false) g1.fh (EvT.is (b := false || false) ?_ rfl) (fun z => nomatch z) fun _ F2 H2 g2 => ?_
  · refine et_or (EvT.is (b := !true) (et_not (et_B ?_)) rfl) fun _ => EvT.is (b := !true) (et_not (et_test ?_)) rfl
    · walk_at "ev"
    · apply Ev.is
      · walk_at "ev"
      · rw [decide_eq_true (by omega), decide_eq_true (by omega)] <;> rfl
  walk_at "n"
  refine x_if (b := false) g2.fh (EvT.is (b := !true) (et_not (et_B ?_)) rfl) (fun z => nomatch z) fun _ F3 H3 g3 => ?_
  · refine (ev_all (ev_lcm (R := rTup rNat) (fun _ => true) (ev_var rfl (by walk_at "rp")) (by omega) (fun v => rfl) ?_)).is (List.all_eq_true.mpr fun b hb => ?_)
    · intro i x v F1 H1 hx g r
      have := t.h4 x (mem_of_at hx)
      refine ev_call2 (ev_var rfl r) (ev_var rfl rfl) ⟨this, by omega⟩
    · obtain ⟨x, hx, rfl⟩ := List.mem_map.mp hb
      rfl
  walk_at "n"
  refine x_fld g3.fh (ev_var rfl (show rInt _ _ (t.many : Int) from rfl)) (ev_var rfl (show rRef _ _ a from rfl)) (g3.hx _ _ (g2.hx _ _ (g1.hx _ _ ha))) T.cl_Turns T.na_Turns_many (by decide) fun v F4 H4 g4 r4 h4 => ?_
  cases (show v = _ from r4)
  have g := (g1.trans g2).trans (g3.trans g4)
  have f4 : F4 a = none := g.nn ha fa
  have gg : Gr (El.M1 a) F H F4 (upd H4 a (.ins T.C_Turns dx (putF "many" (V.int t.many) []))) := g.up.set' f4 (.inr ⟨rfl, e.nt ha⟩)
  walk_at "n"
  refine x_fld gg.fh (ev_listL (ev_var rfl (by walk_at "rp"))) (ev_var rfl (show rRef _ _ a from rfl)) upd_same T.cl_Turns T.na_Turns_maps (by show 1 < 1000; decide) fun v F5 H5 g5 r5 h5 => ?_
  have g6 := (gg.trans g5.up).set' (o := .ins T.C_Turns dx (putF "maps" v (putF "many" (V.int t.many) []))) (g5.nn upd_same f4) (.inr ⟨rfl, e.nt ha⟩)
  exact k _ _ (g6.frz upd_same fa (.inr ⟨rfl, e.nt ha⟩) (g5.nn upd_same f4)) ⟨a, dx, v, rfl, upd_same, Mn.mono (ExT.frz g6.fh upd_same (g5.nn upd_same f4)) r5⟩

abbrev sp_Turns_len (T : Tx K mg) : Sp := Sp1 (rTurns T.C_Turns) (fun _ => True) rNat (fun t => t.maps.length)
theorem ok_Turns_len (T : Tx K mg) : FnOk P w K mg base CX0 1 T.a_Turns_len T.d_Turns_len ["self"] (sp_Turns_len T) := by
  refine T.F_Turns_len.ok sc_Turns_len (fun vs H Q E h => SpLen.len h) (fun cdv A outer s H vs Q E hr h => ?_)
  obtain ⟨F, v, t, rfl, e, r, -, k⟩ := h
  refine ⟨_, (by exact (pss_one (ps_ret (pe_callB (r := rLenS K) call_len_seq (by rfl) T.z_len PySem.boot_len (pa_cons (kfld K (pv 0) rfl) pa_nil))))), ?_⟩
  try dsimp only [cxOf]
  apply x_ret e
  case h => walk_at "ev"
  exact k

abbrev sp_check_signs (T : Tx K mg) : Sp := Sp2 (rTurns T.C_Turns) (rLst rNat) (fun t w => ∀ s ∈ w, s < t.maps.length) rNon (fun _ _ => ())
theorem ok_check_signs (T : Tx K mg) : FnOk P w K mg base CX0 3 T.a_check_signs T.d_check_signs ["turns", "signs"] (sp_check_signs T) := by
  refine T.F_check_signs.ok sc_check_signs (fun vs H Q E h => SpLen.len h) (fun cdv A outer s H vs Q E hr h => ?_)
  obtain ⟨F, v, w, t, xs, rfl, e, r1, r2, p, k⟩ := h
  have t3 := t.h3
  refine ⟨_, (by exact (pss_one (ps_for PassesOwn.never rfl (klist K (pv 1)) (pg_name (i := 2) sc_check_signs.nd rfl (by first | exact Or.inl rfl | exact Or.inr rfl)) (pss_one (ps_if (pt_not (pt_val (pe_call (ok_is_between T) (hr.mono (by decide)) rfl T.g_is_between T.F_is_between.kp T.b_is_between .nil pass0 (pa_cons (pv 2) (pa_cons pe_int (pa_cons (pe_op op_sub (pe_callB (call_lenOwn (ok_Turns_len T) (hr.mono (by decide)) T.m_Turns_len.at_ T.m_Turns_len.fn T.b_Turns_len pass0) (by rfl) T.z_len PySem.boot_len (pa_cons (pv 0) pa_nil)) pe_int) pa_nil)))))) (pss_one ps_never) pss_nil))))), ?_⟩
  try dsimp only [cxOf]
  refine x_forL e (ev_var rfl r2) (fun i σ' F' H' => Gr M0 F H F' H' ∧ ∃ y, σ' = [some v, some w, y]) (fun F1 H1 g => ⟨g, none, rfl⟩) ?_ ?_
  · rintro F1 e1 i x u σ' F' H' hx e2 e3 r ⟨g, y, rfl⟩
    cases (show u = _ from r)
    have hs := p x (mem_of_at hx)
    refine x_if (b := false) g.fh (EvT.is (b := !true) (et_not (et_B ?_)) rfl) (fun z => nomatch z) fun _ F3 H3 g3 => ?_
    · apply Ev.is
      · walk_at "ev"
      · rw [decide_eq_true (by omega), decide_eq_true (by omega)] <;> rfl
    walk_at "n"
    exact ⟨F3, e2.trans g3.ff, g3.fh, g.trans g3, _, rfl⟩
  · rintro σ' F' H' e1 e2 ⟨g, y, rfl⟩
    exact k _ F' H' g rfl
abbrev sp_begin_of (T : Tx K mg) : Sp := Sp1 (rTurns T.C_Turns) (fun _ => True) (rTup rNat) (fun t => idMap t.many)
theorem ok_begin_of (T : Tx K mg) : FnOk P w K mg base CX0 1 T.a_begin_of T.d_begin_of ["turns"] (sp_begin_of T) := by
  refine T.F_begin_of.ok sc_begin_of (fun vs H Q E h => SpLen.len h) (fun cdv A outer s H vs Q E hr h => ?_)
  obtain ⟨F, v, t, rfl, e, r, -, k⟩ := h
  have t1 := t.h1
  refine ⟨_, (by exact (pss_one (ps_ret (pe_tupRg rfl (by rfl) T.z_tuple (prg_1 (by rfl) T.z_range (kfld K (pv 0) rfl)))))), ?_⟩
  try dsimp only [cxOf]
  apply x_ret e
  case h => walk_at "ev"
  exact k
abbrev sp_then (T : Tx K mg) : Sp := Sp2 (rTup rNat) (rTup rNat) (fun a b => a.length ≤ 1000 ∧ ∀ x ∈ a, x < b.length) (rTup rNat) thenM
theorem ok_then (T : Tx K mg) : FnOk P w K mg base CX0 1 T.a_then T.d_then ["first", "second"] (sp_then T) := by
  refine T.F_then.ok sc_then (fun vs H Q E h => SpLen.len h) (fun cdv A outer s H vs Q E hr h => ?_)
  obtain ⟨F, v, w, a, b, rfl, e, r1, r2, ⟨p1, p2⟩, k⟩ := h
  refine ⟨_, (by exact (pss_one (ps_ret (pe_callTy (r := rTupS K) call_tuple_of (by rfl) T.z_tuple (by decide +kernel) (pa_cons (pe_lc (own := [("place", 2)]) (g := gName 2) (tt := tYes) rfl sc_then.nd (ktup K (pv 0)) (blkOk_by (own := [("place", 2)]) (N := N_then) (sc := defScope s_then) (by decide +kernel)) (fun _ _ _ _ _ => (pg_name (i := 2) sc_then.nd rfl (by first | exact Or.inl rfl | exact Or.inr rfl))) (fun _ _ _ _ _ => pts_nil) (fun _ _ _ _ _ => (pe_ix (r := rIxT K) ix_tup (pv 1) (pv 2) (fun _ _ => rfl)))) pa_nil))))), ?_⟩
  try dsimp only [cxOf]
  refine x_ret (x := thenM a b) e (ev_tupL (ev_lcTm (R := rNat) (fun x => b.getD x 0) (ev_var rfl r1) (by omega) (fun v => rfl) ?_)) k
  intro i x v F1 H1 hx g r
  cases (show v = _ from r)
  exact ev_ixT (ev_var rfl (Mn.mono g.ff r2)) (ev_var rfl rfl) (atI_natL (getD_at (p2 x (mem_of_at hx))))
abbrev sp_has_met (T : Tx K mg) : Sp := Sp1 (rTup rNat) (fun a => a.length ≤ 1000) rBl metB
theorem decide_nat1 {n : Nat} : decide ((n : Int) = 1) = decide (n = 1) := by
  by_cases h : n = 1
  · rw [decide_eq_true h, decide_eq_true (by omega)]
  · rw [decide_eq_false h, decide_eq_false (by omega)]
theorem ok_has_met (T : Tx K mg) : FnOk P w K mg base CX0 1 T.a_has_met T.d_has_met ["one"] (sp_has_met T) := by
  refine T.F_has_met.ok sc_has_met (fun vs H Q E h => SpLen.len h) (fun cdv A outer s H vs Q E hr h => ?_)
  obtain ⟨F, v, a, rfl, e, r, p, k⟩ := h
  refine ⟨_, (by exact (pss_one (ps_ret (pe_cmpR op_eq (klenset K (by rfl) T.z_len (by rfl) T.z_set (pv 0)) pe_int (nomark _))))), ?_⟩
  try dsimp only [cxOf]
  apply x_ret e
  case h => walk_at "ev"
  intro w F' H' g r
  exact k w F' H' g (by rw [decide_nat1] at r; exact r)
abbrev sp_map_of (T : Tx K mg) : Sp := Sp2 (rTurns T.C_Turns) (rLst rNat) (fun t w => ∀ s ∈ w, s < t.maps.length) (rTup rNat) mapW
theorem ok_map_of (T : Tx K mg) : FnOk P w K mg base CX0 4 T.a_map_of T.d_map_of ["turns", "word"] (sp_map_of T) := by
  refine T.F_map_of.ok sc_map_of (fun vs H Q E h => SpLen.len h) (fun cdv A outer s H vs Q E hr h => ?_)
  obtain ⟨F, v, w, t, xs, rfl, e, r1, r2, p, k⟩ := h
  have t1 := t.h1
  refine ⟨_, (by exact (pss_cons (ps_expr (pe_call (ok_check_signs T) (hr.mono (by decide)) rfl T.g_check_signs T.F_check_signs.kp T.b_check_signs .nil pass0 (pa_cons (pv 0) (pa_cons (pv 1) pa_nil))))
      (pss_cons (ps_set (i := 2) sc_map_of.nd rfl (Or.inl rfl) (pe_call (ok_begin_of T) (hr.mono (by decide)) rfl T.g_begin_of T.F_begin_of.kp T.b_begin_of .nil pass0 (pa_cons (pv 0) pa_nil)))
      (pss_cons (ps_for PassesOwn.never rfl (klist K (pv 1)) (pg_name (i := 3) sc_map_of.nd rfl (by first | exact Or.inl rfl | exact Or.inr rfl)) (pss_one (ps_set (i := 2) sc_map_of.nd rfl (Or.inl rfl) (pe_call (ok_then T) (hr.mono (by decide)) rfl T.g_then T.F_then.kp T.b_then .nil pass0 (pa_cons (pv 2) (pa_cons (pe_ix (r := rIxL K) ix_list (kfld K (pv 0) rfl) (pv 3) (fun _ _ => rfl)) pa_nil))))))
      (pss_one (ps_ret (pv 2))))))), ?_⟩
  try dsimp only [cxOf]
  walk_at "n"
  refine x_drop e (ev_call2 (ev_var rfl r1) (ev_var rfl r2) p) fun F1 H1 g1 => ?_
  walk_at "n"
  refine x_set g1.fh (ev_call1 (ev_var rfl (Mn.mono g1.ff r1)) trivial) fun u F2 H2 g2 r3 => ?_
  walk_at "n"
  refine x_forL g2.fh (ev_var rfl (Mn.mono (g1.ff.trans g2.ff) r2)) (fun i σ' F' H' => Gr M0 F H F' H' ∧ ∃ u y, σ' = [some v, some w, some u, y] ∧ rTup rNat F' u (mapW t (xs.take i))) (fun F3 H3 g => ⟨(g1.trans g2).trans g, u, none, rfl, Mn.mono g.ff r3⟩) ?_ ?_
  · rintro F3 e3 i x u σ' F' H' hx e4 e5 r ⟨g, u', y, rfl, rm⟩
    cases (show u = _ from r)
    have hs := p x (mem_of_at hx)
    have hm : IsMap t.many (mapW t (xs.take i)) := isMap_mapW fun s h => p s (List.mem_of_mem_take h)
    refine x_set e5 (ev_call2 (y := t.maps.getD x []) (ev_var rfl rm) (ev_ixL (ev_fld (ev_var rfl (Mn.mono g.ff r1))) (ev_var rfl rfl) (atI_natL (getD_at hs))) ⟨by rw [hm.1]; omega, fun z hz => ?_⟩) fun w' F6 H6 g6 r6 => ?_
    · rw [(t.isMap hs).1]
      exact hm.2 z hz
    · refine ⟨F6, e4.trans g6.ff, g6.fh, g.trans g6, w', _, rfl, ?_⟩
      have : mapW t (xs.take (i + 1)) = thenM (mapW t (xs.take i)) (t.maps.getD x []) := by
        rw [List.take_add_one, hx]
        unfold mapW mapFrom
        rw [List.foldl_append]
        rfl
      rw [this]
      exact r6
  · rintro σ' F' H' e1 e2 ⟨g, u', y, rfl, rm⟩
    rw [List.take_length] at rm
    exact x_ret e2 (ev_var rfl rm) fun v' F6 H6 g6 r6 => k v' F6 H6 (g.trans g6) r6

abbrev sp_found_from (T : Tx K mg) : Addr → Addr → Str → Sp → Sp := SpFound T.C_TooMany
theorem ok_found_from (T : Tx K mg) : LFn P w K mg base (L2.CX P w) 3 2 T.a_found_from T.d_found_from ["begin", "leads", "most"] 1 (sp_found_from T) := by
  refine Fun_okL T.F_found_from sc_found_from (fun f c q lsp vs H Q E h => h.len) (fun cdv A outer s H vs Q E f c q lsp hr L h => ?_)
  obtain ⟨F, v0, b, m, I, L', rfl, e, rb, hc, m1, m2, ib, il, hl, k, kn⟩ := h
  have ri : ∀ F (i : Int), rInt F (.int i) i := fun F i => rfl
  refine ⟨_, (by exact (pss_cons (ps_set (i := 3) sc_found_from.nd rfl (Or.inl rfl) (pe_lst (pa_cons (pv 0) pa_nil)))
      (pss_cons (ps_set (i := 4) sc_found_from.nd rfl (Or.inl rfl) (pe_disp1T (hu_of hr) (pv 0) pe_bl))
      (pss_cons (ps_set (i := 5) sc_found_from.nd rfl (Or.inl rfl) pe_int)
      (pss_cons (ps_while (passes_of rfl) (pt_cmpR op_lt (pv 5) (pe_callB (r := rLenS K) call_len_seq (by rfl) T.z_len PySem.boot_len (pa_cons (pv 3) pa_nil)) (nomark _)) (pss_cons (ps_for (passes_of rfl) rfl (klist K (pe_lcall1 L rfl hr (by decide) passL 1 rfl (by first | exact Or.inl rfl | exact Or.inr (Or.inl rfl) | exact Or.inr (Or.inr rfl)) (pa_cons (pe_ix (r := rIxL K) ix_list (pv 3) (pv 5) (fun _ _ => rfl)) pa_nil))) (pg_name (i := 6) sc_found_from.nd rfl (by first | exact Or.inl rfl | exact Or.inr rfl)) (pss_one (ps_if (pt_cmp (pc_dnotin (hu_of hr) (pv 6) (pv 4))) (pss_cons (ps_if (pt_cmpR op_eq (pe_callB (r := rLenS K) call_len_seq (by rfl) T.z_len PySem.boot_len (pa_cons (pv 3) pa_nil)) (pv 2) (nomark _)) (pss_one (ps_raise rfl (takes_of rfl rfl rfl rfl) (pmk_own PySem.F.excBase_ValueError T.xp_TooMany T.g_TooMany T.xk_TooMany (raises_own T.xe_TooMany T.xt_TooMany) (by exact rfl)))) pss_nil)
      (pss_cons (ps_dput (hu_of hr) (pv 4) (pv 6) pe_bl rfl)
      (pss_one (ps_expr (kbm K PySem.F.plainAttrs_list PySem.F.slot_list_append PySem.F.type_list_append mt_append (pv 3) (pa_cons (pv 6) pa_nil)))))) pss_nil)))
      (pss_one (ps_aug (i := 5) sc_found_from.nd rfl (Or.inl rfl) pe_int ip_add))))
      (PSs.nox (pss_one (ps_ret (pv 3))))))))), ?_⟩
  walk_at "n"
  refine x_lst1 e (ev_var rfl rb) fun v1 l F1 H1 g1 r1 hl1 => ?_
  have G1 : Gr M0 F H F1 (upd H1 l (.lst [v1])) := g1.trans (.loc g1.fh hl1)
  have hl0 : H l = none := g1.free hl1
  have fl1 : F1 l = none := g1.fh.free hl1
  walk_at "n"
  refine e_disp1T (S := rBl) (y := true) G1.fh (ev_var rfl (Mn.mono g1.ff rb)) ev_bl fun d vb F2 H2 g2 hd1 fd2 hd2 rb2 => ?_
  have hd0 : H d = none := G1.free hd1
  have hdl : d ≠ l := fun z => by rw [z, upd_same] at hd1; cases hd1
  have G2 := G1.trans g2
  walk_at "n"
  refine x_set G2.fh ev_int fun v3 F3 H3 g3 r3 => ?_
  cases (show v3 = _ from r3)
  have G3 := G2.trans g3
  walk_at "n"
  refine x_while G3.fh (fun mm σ' F' H' => ∃ (at_ : Nat) (fs : List (List Nat)) (vs : List V) (kvs : List (List Key × V)) (y6 : Option V), foundM L' m b = foundLoop L' m mm at_ fs ∧ at_ ≤ fs.length ∧ fs.length ≤ m ∧ mm + at_ = m + 1 ∧ (∀ x ∈ fs, I x) ∧ Gr M0 F H F' H' ∧
      F' l = none ∧ H' l = some (.lst vs) ∧ Paired (rTup rNat F') vs fs ∧ F' d = none ∧ H' d = some (.dT kvs) ∧ KvP rBl F' kvs (trues fs) ∧ σ' = [some v0, some (.ref f), some (.int (m : Int)), some (.ref l), some (.ref d), some (.int (at_ : Int)), y6]) (m + 1) ?_
    (fun _ σ' _ H' => match H' l with | some (HO.lst vs) => (match σ'[5]? with | some (some (V.int a)) => decide (a < (vs.length : Int)) | _ => false) | _ => false) ?_ ?_ ?_ ?_
  · exact ⟨0, [b], [v1], _, _, rfl, Nat.zero_le _, m1, rfl, fun x hx => by rw [List.mem_singleton.mp hx]; exact ib, G3, (g2.trans g3).nn upd_same fl1, (g2.trans g3).hx _ _ upd_same, .cons (Mn.mono (g2.ff.trans g3.ff) r1) .nil, g3.nn hd2 fd2, g3.hx _ _ hd2, .cons ⟨rfl, Mn.mono g3.ff rb2⟩ .nil, rfl⟩
  · rintro mm σ' F' H' e1 e2 ⟨at_, fs, vs, kvs, y6, h1, h2, h3, h4, h5, g, fl, hL, pL, fd, hD, pD, rfl⟩
    refine (et_test (ev_lt (ev_var rfl (ri _ (at_ : Int))) (ev_lenM (ev_var rfl (show rRef _ _ l from rfl)) hL))).is ?_
    show _ = (match H' l with | some (HO.lst vs) => decide ((at_ : Int) < (vs.length : Int)) | _ => false)
    rw [hL]
  · rintro mm σ' F' H' F5 H5 g5 ⟨at_, fs, vs, kvs, y6, h1, h2, h3, h4, h5, g, fl, hL, pL, fd, hD, pD, rfl⟩
    exact ⟨at_, fs, vs, kvs, y6, h1, h2, h3, h4, h5, g.trans g5, g5.nn hL fl, g5.hx _ _ hL, Paired.up g5.ff pL, g5.nn hD fd, g5.hx _ _ hD, pD.up g5.ff, rfl⟩
  · rintro mm σ' F' H' F5 H5 e1 g5 hb ⟨at_, fs, vs, kvs, y6, h1, h2, h3, h4, h5, g, fl, hL, pL, fd, hD, pD, rfl⟩ _
    have hb : (match H' l with | some (HO.lst vs) => decide ((at_ : Int) < (vs.length : Int)) | _ => false) = true := hb
    rw [hL] at hb
    have hat : at_ < fs.length := by
      have := of_decide_eq_true hb
      rw [pL.length] at this
      omega
    obtain ⟨x, hx⟩ : ∃ x, fs[at_]? = some x := ⟨_, List.getElem?_eq_getElem hat⟩
    obtain ⟨vx, hvx, rx⟩ := Paired.get pL hx
    have ix := h5 x (List.mem_of_getElem? hx)
    obtain ⟨mm, rfl⟩ : ∃ j, mm = j + 1 := ⟨mm - 1, by omega⟩
    have G5 := g.trans g5
    walk_at "n"
    refine x_forL (R := rTup rNat) (xs := L' x) g5.fh (ev_lcall (R := rTup rNat) (x := x) rfl (G5.ff _ _ hc) (ev_ixM (ev_var rfl (show rRef _ _ l from rfl)) (ev_var rfl (ri _ (at_ : Int))) (g5.hx _ _ hL) (atI_natL hvx) (Mn.mono g5.ff rx)) fun F6 H6 u g6 ru Q6 q6 => hl F6 H6 u x (G5.trans g6) ru ix Q6 _ q6)
      (fun i σ' F' H' => ∃ (fs' : List (List Nat)) (vs : List V) (kvs : List (List Key × V)) (y6 : Option V), addM m fs (L' x) = addM m fs' ((L' x).drop i) ∧ at_ < fs'.length ∧ fs'.length ≤ m ∧ (∀ x ∈ fs', I x) ∧ Gr M0 F H F' H' ∧
        F' l = none ∧ H' l = some (.lst vs) ∧ Paired (rTup rNat F') vs fs' ∧ F' d = none ∧ H' d = some (.dT kvs) ∧ KvP rBl F' kvs (trues fs') ∧ σ' = [some v0, some (.ref f), some (.int (m : Int)), some (.ref l), some (.ref d), some (.int (at_ : Int)), y6])
      (fun F6 H6 g6 => ⟨fs, vs, kvs, y6, rfl, hat, h3, h5, G5.trans g6, (g5.trans g6).nn hL fl, (g5.trans g6).hx _ _ hL, Paired.up (g5.trans g6).ff pL, (g5.trans g6).nn hD fd, (g5.trans g6).hx _ _ hD, pD.up (g5.trans g6).ff, rfl⟩) ?_ ?_
    · rintro F6 e6 i y u σ' F7 H7 hy e7 e8 ry ⟨fs', vs, kvs, y6, k1, k2, k3, k4, g, fl, hL, pL, fd, hD, pD, rfl⟩
      have hdrop : (L' x).drop i = y :: (L' x).drop (i + 1) := by
        obtain ⟨hl', he'⟩ := List.getElem?_eq_some_iff.mp hy
        rw [List.drop_eq_getElem_cons hl', he']
      rw [hdrop] at k1
      have iy := il x ix y (List.mem_of_getElem? hy)
      walk_at "n"
      refine x_if (b := !decide (y ∈ fs')) e8 ((et_B (ev_dnotT (S := rBl) (m := y) (ev_var rfl ry) (ev_var rfl (show rRef _ _ d from rfl)) ⟨kvs, hD, pD⟩)).is (by rw [look_trues])) (fun hb F9 H9 g9 => ?_) (fun hb F9 H9 g9 => ?_)
      · have hny : y ∉ fs' := by
          cases q : decide (y ∈ fs') with
          | true => rw [q] at hb; cases hb
          | false => exact of_decide_eq_false q
        walk_at "n"
        refine x_if (b := decide ((fs'.length : Int) = (m : Int))) g9.fh ((et_test (ev_eqI (ev_lenM (ev_var rfl (show rRef _ _ l from rfl)) (g9.hx _ _ hL)) (ev_var rfl (ri _ (m : Int))))).is (by rw [pL.length])) (fun hb F10 H10 g10 => ?_) (fun hb F10 H10 g10 => ?_)
        · have hfull : fs'.length = m := by have := of_decide_eq_true hb; omega
          have : foundM L' m b = none := by
            rw [h1]
            exact loop_none hx (by rw [k1]; exact addM_full hny hfull)
          exact kn this F10 H10 (g.trans (g9.trans g10))
        · have hfull : ¬ fs'.length = m := by have := of_decide_eq_false hb; omega
          have g910 := g9.trans g10
          walk_at "n"
          refine x_dputT (S := rBl) (y := true) (m := y) (ks := trues fs') g10.fh ev_bl (ev_var rfl (show rRef _ _ d from rfl)) (ev_var rfl (Mn.mono g910.ff ry)) ⟨kvs, g910.hx _ _ hD, pD.up g910.ff⟩ (by rw [trues_len, sizeLine_eq]; omega) fun kvs' F11 H11 g11 pD' => ?_
          have gA := g910.trans g11
          have hDA := gA.hx _ _ hD
          have fdA := gA.nn hD fd
          rw [put_trues hny] at pD'
          have gB : Gr M0 F H F11 (upd H11 d (.dT kvs')) := (g.trans gA).set' fdA (.inl hd0)
          have hLB : (upd H11 d (.dT kvs')) l = some (.lst vs) := by rw [upd_ne hdl.symm]; exact gA.hx _ _ hL
          walk_at "n"
          refine x_app (R := rTup rNat) (x := y) gB.fh (ev_var rfl (show rRef _ _ l from rfl)) hLB (ev_var rfl (Mn.mono gA.ff ry)) (by rw [pL.length, sizeLine_eq]; omega) fun v12 F12 H12 g12 r12 h12 => ?_
          have flC : F12 l = none := g12.nn hLB (gA.nn hL fl)
          have hDC : H12 d = some (.dT kvs') := g12.hx _ _ upd_same
          refine ⟨F12, e7.trans (gA.ff.trans g12.ff), ?_, fs' ++ [y], vs ++ [v12], kvs', _, ?_, ?_, ?_, ?_, (gB.trans g12).set' flC (.inl hl0), flC, upd_same, (Paired.up (gA.ff.trans g12.ff) pL).snoc r12, g12.nn upd_same fdA, by rw [upd_ne hdl]; exact hDC, pD'.up g12.ff, rfl⟩
          · exact ((gB.trans g12).set' (o := .lst (vs ++ [v12])) flC (.inl hl0)).fh
          · rw [k1]; exact addM_new hny hfull
          · rw [List.length_append]; omega
          · rw [List.length_append]; show fs'.length + 1 ≤ m; omega
          · intro z hz
            rcases List.mem_append.mp hz with hz | hz
            · exact k4 z hz
            · rw [List.mem_singleton.mp hz]; exact iy
      · have hny : y ∈ fs' := by
          cases q : decide (y ∈ fs') with
          | true => exact of_decide_eq_true q
          | false => rw [q] at hb; cases hb
        walk_at "n"
        exact ⟨F9, e7.trans g9.ff, g9.fh, fs', vs, kvs, _, by rw [k1]; exact addM_in hny, k2, k3, k4, g.trans g9, g9.nn hL fl, g9.hx _ _ hL, Paired.up g9.ff pL, g9.nn hD fd, g9.hx _ _ hD, pD.up g9.ff, rfl⟩
    · rintro σ' F7 H7 e7 e8 ⟨fs', vs, kvs, y6, k1, k2, k3, k4, g, fl, hL, pL, fd, hD, pD, rfl⟩
      rw [List.drop_length] at k1
      walk_at "n"
      refine x_aug (b := 1) e8 rfl ev_int fun F8 H8 g8 => ?_
      exact ⟨F8, mm, e1.trans (g5.ff.trans (e7.trans g8.ff)), g8.fh, Nat.lt_succ_self _, at_ + 1, fs', vs, kvs, _, by rw [h1]; exact loop_some hx k1, k2, k3, by omega, k4, g.trans g8, g8.nn hL fl, g8.hx _ _ hL, Paired.up g8.ff pL, g8.nn hD fd, g8.hx _ _ hD, pD.up g8.ff, rfl⟩
  · rintro mm σ' F' H' F5 H5 e1 g5 hb ⟨at_, fs, vs, kvs, y6, h1, h2, h3, h4, h5, g, fl, hL, pL, fd, hD, pD, rfl⟩ _
    have hb : (match H' l with | some (HO.lst vs) => decide ((at_ : Int) < (vs.length : Int)) | _ => false) = false := hb
    rw [hL] at hb
    have hat : fs.length ≤ at_ := by
      have := of_decide_eq_false hb
      rw [pL.length] at this
      omega
    rw [loop_end hat] at h1
    have G5 := g.trans g5
    have gz := G5.frz (g5.hx _ _ hL) (e.free hl0) (.inl hl0) (g5.nn hL fl)
    walk_at "n"
    refine x_ret (R := rLst (rTup rNat)) (x := fs) gz.fh (ev_var rfl ⟨l, vs, rfl, upd_same, Paired.up (G5.fh.frz (g5.hx _ _ hL) (g5.nn hL fl)) (Paired.up g5.ff pL)⟩) fun v' F9 H9 g9 r9 => k fs h1 v' F9 H9 (gz.trans g9) r9

abbrev sp_maps_of_lam (T : Tx K mg) : Addr → Addr → List (Option V) → Sp := SpLam T.C_Turns (fun t m => IsMap t.many m) (fun t m => t.maps.map fun s => thenM m s)
theorem lk_maps_of (T : Tx K mg) (f c' : Addr) (q : Str) (cl : List (Str × Addr)) : LOk P w K mg base (L2.CX P w) 2 f ⟨"<lambda>", q, largs (defBody s_maps_of), [], ls_maps_of, cl, c'⟩ (lbody (defBody s_maps_of)) ["one"] ["turns"] (sp_maps_of_lam T f c') := by
  refine lok1_of sc_maps_of_lam (fun pm ctv u => rfl) (fun ws vs H Q E h => h.len) (fun A outer s H v ws Q E hr hc hw h => ?_)
  obtain ⟨F, tv, v', t, m, rfl, e1, e, rt, rm, hi, k⟩ := h
  cases e1
  have t1 := t.h1
  have t3 := t.h3
  refine ⟨_, (by exact (pe_lc (own := [("step", 2)]) (g := gName 2) (tt := tYes) rfl sc_maps_of_lam.nd (klist K (kfld K (pv 1) rfl)) (blkOk_by (own := [("step", 2)]) (N := N_maps_of_lam) (sc := ls_maps_of) (by decide +kernel)) (fun _ _ _ _ _ => (pg_name (i := 2) sc_maps_of_lam.nd rfl (by first | exact Or.inl rfl | exact Or.inr rfl))) (fun _ _ _ _ _ => pts_nil) (fun _ _ _ _ _ => (pe_call (ok_then T) (hr.mono (by decide)) rfl T.g_then T.F_then.kp T.b_then .nil pass0 (pa_cons (pv 0) (pa_cons (pv 2) pa_nil)))))), ?_⟩
  refine (ev_lcm (K := K) (n := 2) (σ := [some v, some tv, none]) (R := rTup rNat) (S := rTup rNat) (fun s => thenM m s) (ev_fld (ev_var rfl rt)) (by omega) (fun v => rfl) ?_) F H (.refl e) Q fun w F' H' g r => k w F' H' g r
  intro i x u F1 H1 hx g r
  have hm := t.h4 x (mem_of_at hx)
  exact ev_call2 (ev_var rfl (Mn.mono g.ff rm)) (ev_var rfl r) ⟨by rw [hi.1]; omega, fun z hz => by rw [hm.1]; exact hi.2 z hz⟩
abbrev sp_maps_of (T : Tx K mg) : Sp := SpT1 (rTurns T.C_Turns) (fun _ => True) (rLst (rTup rNat)) mapsM T.C_TooMany
theorem ok_maps_of (T : Tx K mg) : FnOk P w K mg base (L2.CX P w) 4 T.a_maps_of T.d_maps_of ["turns"] (sp_maps_of T) := by
  refine T.F_maps_of.okX sc_maps_of (fun vs H Q E h => SpLen.len h) (fun A outer s H vs Q E hr h => ?_)
  obtain ⟨F, v, t, rfl, e, r, -, k, kn⟩ := h
  refine ⟨_, (by exact (pss_one (ps_ret (pe_lam4 (js := [0]) (v3 := .int 300) (ok_found_from T) (hr.mono (by decide)) rfl T.g_found_from T.F_found_from.kp T.b_found_from rfl (passes_call (takes_of rfl rfl rfl rfl) (fun _ _ _ _ h => h)) T.tb_maps_of rfl T.tm_maps_of T.tu_maps_of rfl fr_maps_of (fun _ _ _ => rfl) fq_maps_of rfl (fun f c => lk_maps_of T f c _ _) rfl (pe_call (ok_begin_of T) (hr.mono (by decide)) rfl T.g_begin_of T.F_begin_of.kp T.b_begin_of .nil pass0 (pa_cons (pv 0) pa_nil)) rfl T.c_MOST_MAPS ⟨_, rfl⟩)))), ?_⟩
  walk_at "n"
  refine e_lam4 (m := 300) e (ev_call1 (ev_var rfl r) trivial) rfl r (by decide) (by decide) (isMap_id t.many) (fun x hx y hy => ?_) (fun xs hx w F' H' g r => k xs hx w F' H' g r) fun hn F' H' g => kn hn F' H' g
  obtain ⟨s, hs, rfl⟩ := List.mem_map.mp hy
  exact isMap_then hx (t.h4 s hs)

abbrev sp_gone_on (T : Tx K mg) : Sp := SpGone T.C_Turns
theorem ok_gone_on (T : Tx K mg) : FnOk P w K mg base CX0 2 T.a_gone_on T.d_gone_on ["turns", "numbers", "is_elder"] (sp_gone_on T) := by
  refine T.F_gone_on.ok sc_gone_on (fun vs H Q E h => SpLen.len h) (fun cdv A outer s H vs Q E hr h => ?_)
  obtain ⟨F, tv, t, d, ks, b, rfl, e, r1, fd, hd, hm, hl, k⟩ := h
  have t1 := t.h1
  have t3 := t.h3
  obtain ⟨kvs, hk, pk⟩ := hd
  have ri : ∀ F (i : Int), rInt F (.int i) i := fun F i => rfl
  refine ⟨_, (by exact (pss_cons (ps_set (i := 3) sc_gone_on.nd rfl (Or.inl rfl) pe_dnewT)
      (pss_cons (ps_lock (ps_for PassesOwn.never rfl (pi_itemsT (pv 1)) (kptup K (n := 2) rfl (pgs_cons (pg_name (i := 4) sc_gone_on.nd rfl (by first | exact Or.inl rfl | exact Or.inr rfl)) (pgs_cons (pg_name (i := 5) sc_gone_on.nd rfl (by first | exact Or.inl rfl | exact Or.inr rfl)) pgs_nil))) (pss_one (ps_for PassesOwn.never rfl (klist K (kfld K (pv 0) rfl)) (pg_name (i := 6) sc_gone_on.nd rfl (by first | exact Or.inl rfl | exact Or.inr rfl)) (pss_cons (ps_set (i := 7) sc_gone_on.nd rfl (Or.inl rfl) (pe_ifExp (pt_val (pv 2)) (pe_call (ok_then T) (hr.mono (by decide)) rfl T.g_then T.F_then.kp T.b_then .nil pass0 (pa_cons (pv 6) (pa_cons (pv 4) pa_nil))) (pe_call (ok_then T) (hr.mono (by decide)) rfl T.g_then T.F_then.kp T.b_then .nil pass0 (pa_cons (pv 4) (pa_cons (pv 6) pa_nil)))))
      (pss_one (ps_dput (hu_of hr) (pv 3) (pv 7) (pe_op op_add (pe_dget2 (hu_of hr) (pv 3) (pv 7) pe_int ⟨rfl, rfl, rfl, rfl⟩) (pv 5)) rfl)))))))
      (pss_one (ps_ret (pv 3)))))), ?_⟩
  walk_at "n"
  refine x_dictT fun r hr => ?_
  have fr : F r = none := e.free hr
  have hrd : r ≠ d := fun z => by rw [z, hk] at hr; cases hr
  have G1 : Gr M0 F H F (upd H r (.dT [])) := .loc e hr
  walk_at "n"
  refine x_forItT (i := 4) (j := 5) (k := 1) (d := d) (ks := ks) (kvs := kvs) (S := rNat) G1.fh rfl fd (by rw [upd_ne hrd.symm]; exact hk) pk
    (fun od n σ' F' H' => Gr (M1 d) F H F' H' ∧ F' d = none ∧ H' d = some (.frz od (.dT kvs)) ∧ F' r = none ∧ DM rNat F' H' r (goneM t (ks.take n) b) ∧ ∃ y4 y5 y6 y7, σ' = [some tv, some (.ref d), some (.bl b), some (.ref r), y4, y5, y6, y7])
    (fun od F1 H1 g h1 h2 => ⟨G1.up.trans g, h1, h2, g.nw1 hrd upd_same fr, ⟨[], g.of1 r hrd upd_same, .nil⟩, _, _, _, _, rfl⟩) ?_ ?_ ?_ ?_
  · rintro od n σ' F' H' F2 H2 g2 ⟨g, h1, h2, h3, ⟨kvs', h4, p4⟩, y4, y5, y6, y7, rfl⟩
    exact ⟨g.trans g2.up, g2.nn h2 h1, g2.hx _ _ h2, g2.nn h4 h3, ⟨kvs', g2.hx _ _ h4, p4.up g2.ff⟩, _, _, _, _, rfl⟩
  · rintro od n σ' F' H' ⟨g, h1, h2, _⟩
    exact ⟨h1, h2⟩
  · rintro od F1 e1 n x u w σ' F' H' hx e2 e3 ru rw' ⟨g, h1, h2, h3, h4, y4, y5, y6, y7, rfl⟩
    cases (show w = _ from rw')
    have hxm := hm x (List.mem_of_getElem? hx)
    have hnl : n < ks.length := (List.getElem?_eq_some_iff.mp hx).1
    walk_at "n"
    refine x_forL (n := 6) (R := rTup rNat) (xs := t.maps) e3 (ev_fld (ev_var rfl (Mn.mono g.ff r1)))
      (fun i σ' F' H' => Gr (M1 d) F H F' H' ∧ F' d = none ∧ H' d = some (.frz od (.dT kvs)) ∧ F' r = none ∧ rTup rNat F' u x.1 ∧ DM rNat F' H' r ((t.maps.take i).foldl (fun acc s => addK acc (toK b s x.1) x.2) (goneM t (ks.take n) b)) ∧ ∃ y6 y7, σ' = [some tv, some (.ref d), some (.bl b), some (.ref r), some u, some (.int (x.2 : Int)), y6, y7])
      (fun F4 H4 g4 => ⟨g.trans g4.up, g4.nn h2 h1, g4.hx _ _ h2, (by obtain ⟨kvs', hk', _⟩ := h4; exact g4.nn hk' h3), Mn.mono g4.ff ru, h4.gr g4, _, _, rfl⟩) ?_ ?_
    · rintro F4 e4 i s v σ' F5 H5 hs e5 e6 rv ⟨g5, k1, k2, k3, k5, k4, y6, y7, rfl⟩
      have hsm := t.h4 s (mem_of_at hs)
      have hil : i < t.maps.length := (List.getElem?_eq_some_iff.mp hs).1
      walk_at "n"
      refine x_set (R := rTup rNat) (x := toK b s x.1) e6 (ev_if (et_test (ev_var rfl (show rBl F5 (.bl b) b from rfl))) (fun _ => ev_call2 (ev_var rfl rv) (ev_var rfl k5) ⟨by rw [hsm.1]; omega, fun z hz => by rw [hxm.1]; exact hsm.2 z hz⟩) fun _ => ev_call2 (ev_var rfl k5) (ev_var rfl rv) ⟨by rw [hxm.1]; omega, fun z hz => by rw [hsm.1]; exact hxm.2 z hz⟩) fun v7 F6 H6 g6 r6 => ?_
      have k46 := k4.gr g6
      obtain ⟨kvq, hq, pq⟩ := k4
      walk_at "n"
      refine x_dputT (S := rNat) (y := (lookM ((t.maps.take i).foldl (fun acc s => addK acc (toK b s x.1) x.2) (goneM t (ks.take n) b)) (toK b s x.1)).getD 0 + x.2) (m := toK b s x.1) g6.fh (Ev.toNat (Ev.is (ev_add (ev_dget2T (S := rNat) (z := 0) (ev_var rfl (show rRef _ _ r from rfl)) (ev_var rfl r6) ev_int.toNat k46).nat (ev_var rfl (ri _ (x.2 : Int)))) (Int.natCast_add _ _).symm)) (ev_var rfl (show rRef _ _ r from rfl)) (ev_var rfl r6) k46 ?_ fun kvs' F7 H7 g7 p7 => ?_
      · have q1 := gone_len (t := t) (e := b) (ks := ks.take n) (acc := [])
        have q2 := fold_len (t := t) (e := b) (p := x) (ss := t.maps.take i) (acc := goneM t (ks.take n) b)
        rw [List.length_take] at q1 q2
        have q3 : goneM t (ks.take n) b = (ks.take n).foldl (fun acc p => t.maps.foldl (fun acc s => addK acc (toK b s p.1) p.2) acc) [] := rfl
        rw [← q3] at q1
        have q4 : min n ks.length * t.maps.length ≤ 300 * 200 := Nat.mul_le_mul (by omega) (by omega)
        rw [sizeLine_eq]
        rw [List.length_nil] at q1
        omega
      · have gA := g6.trans g7
        have g8 := (g5.trans gA.up).set' (o := .dT kvs') (gA.nn hq k3) (.inl hr)
        refine ⟨F7, e5.trans gA.ff, g8.fh, g8, gA.nn k2 k1, by rw [upd_ne hrd.symm]; exact gA.hx _ _ k2, gA.nn hq k3, Mn.mono gA.ff k5, ?_, _, _, rfl⟩
        rw [foldl_take _ _ hs]
        exact ⟨kvs', upd_same, p7⟩
    · rintro σ' F5 H5 e5 e6 ⟨g5, k1, k2, k3, k5, k4, y6, y7, rfl⟩
      rw [List.take_length] at k4
      refine ⟨F5, e2.trans e5, e6, g5, k1, k2, k3, ?_, _, _, _, _, rfl⟩
      unfold goneM
      rw [foldl_take _ _ hx]
      exact k4
  · rintro od σ' F' H' e1 e2 ⟨g, h1, h2, h3, h4, y4, y5, y6, y7, rfl⟩
    rw [List.take_length] at h4
    have gb := g.back hk h1
    walk_at "n"
    refine ⟨.ref r, rfl, k r F' _ gb hr h3 ?_⟩
    obtain ⟨kvs', h5, p5⟩ := h4
    exact ⟨kvs', by rw [upd_ne hrd]; exact h5, p5⟩
abbrev sp_map_counts (T : Tx K mg) : Sp := SpMapCounts T.C_Turns T.C_TooMany
theorem ok_map_counts (T : Tx K mg) : FnOk P w K mg base (L2.CX P w) 5 T.a_map_counts T.d_map_counts ["turns", "many"] (sp_map_counts T) := by
  refine T.F_map_counts.okX sc_map_counts (fun vs H Q E h => SpLen.len h) (fun cdv A outer s H vs Q E hr h => ?_)
  obtain ⟨F, v, t, n, rfl, e, r, hn, k, kn⟩ := h
  have ri : ∀ F (i : Int), rInt F (.int i) i := fun F i => rfl
  refine ⟨_, (by exact (pss_cons (ps_expr (pe_callS (ok_maps_of T) (hr.mono (by decide)) rfl T.g_maps_of T.F_maps_of.kp T.b_maps_of (fun σ => passAt (takes_of rfl rfl rfl rfl) σ) (pa_cons (pv 0) pa_nil)))
      (PSs.nox (pss_cons (ps_set (i := 2) sc_map_counts.nd rfl (Or.inl rfl) (pe_disp1T (hu_of hr) (pe_call (ok_begin_of T) (hr.mono (by decide)) rfl T.g_begin_of T.F_begin_of.kp T.b_begin_of .nil pass0 (pa_cons (pv 0) pa_nil)) pe_int))
      (pss_cons (ps_for PassesOwn.never rfl (pi_range1 rfl T.z_range (pa_cons (pv 1) pa_nil)) (pg_name (i := 3) sc_map_counts.nd rfl (by first | exact Or.inl rfl | exact Or.inr rfl)) (pss_one (ps_set (i := 2) sc_map_counts.nd rfl (Or.inl rfl) (pe_call (ok_gone_on T) (hr.mono (by decide)) rfl T.g_gone_on T.F_gone_on.kp T.b_gone_on .nil pass0 (pa_cons (pv 0) (pa_cons (pv 2) (pa_cons pe_bl pa_nil)))))))
      (pss_one (ps_ret (pe_callB (r := rSortedKV K) (cr_sortedKV hr.units) (by rfl) T.z_sorted (by decide +kernel) (pa_cons (pe_callTy (call_listItems rfl) (by rfl) T.z_list (by decide +kernel) (pa_cons (kbm0 K PySem.F.plainAttrs_dict PySem.F.slot_dict_items PySem.F.type_dict_items DX.mt_itemsT (pv 2)) pa_nil)) pa_nil))))))))), ?_⟩
  walk_at "n"
  refine x_dropT1 e (ev_var rfl r) trivial (fun xs hxs F1 H1 g1 => ?_) fun hno F' H' g => kn hno F' H' g
  have ms := maps_spec hxs
  walk_at "n"
  refine evD_disp (m := idMap t.many) (n := 1) (ev_call1 (R := rTurns T.C_Turns) (x := t) (ev_var rfl (Mn.mono g1.ff r)) trivial) ev_int.toNat F1 H1 (.refl g1.fh) _ fun d F2 H2 g2 hd0 fd2 m2 => ?_
  have G2 := g1.trans g2
  walk_at "n"
  refine x_forR (n := n) g2.fh (ev_var rfl (ri _ (n : Int))) (by omega) (fun i σ' F' H' => Gr M0 F H F' H' ∧ ∃ d y3, F' d = none ∧ DM rNat F' H' d (mcM t i) ∧ σ' = [some v, some (.int (n : Int)), some (.ref d), y3])
    (fun F3 H3 g3 => ⟨G2.trans g3, d, _, (by obtain ⟨kvs, hk, _⟩ := m2; exact g3.nn hk fd2), m2.gr g3, rfl⟩) ?_ ?_
  · rintro F3 e3 i σ' F' H' hi e4 e5 ⟨g, d, y3, f1, m1, rfl⟩
    have kin := mc_in ms i
    walk_at "n"
    refine e_gone g.fh (ev_var rfl (Mn.mono g.ff r)) (ev_var rfl (show rRef _ _ d from rfl)) ev_bl f1 m1 (fun p hp => ms.isMap (kin.sub p hp)) (Nat.le_trans kin.len ms.len) fun q F6 H6 g6 h0 f6 m6 => ?_
    exact ⟨F6, e4.trans g6.ff, g6.fh, g.trans g6, q, _, f6, m6, rfl⟩
  · rintro σ' F' H' e4 e5 ⟨g, d, y3, f1, m1, rfl⟩
    walk_at "n"
    exact e_sortedKV g.fh (ev_listItems (ev_var rfl (show rRef _ _ d from rfl)) m1) fun ys w F6 H6 perm g6 r6 => k xs hxs ys perm w F6 H6 (g.trans g6) r6

abbrev sp_blocks (T : Tx K mg) : Sp := SpT2 (rTurns T.C_Turns) rNat (fun _ n => n ≤ 1000) (rPr (rLst rNat) (rLst (rLst rNat))) blocksM T.C_TooMany
theorem ok_blocks (T : Tx K mg) : FnOk P w K mg base (L2.CX P w) 6 T.a_blocks T.d_blocks ["turns", "long"] (sp_blocks T) := by
  refine T.F_blocks.okX sc_blocks (fun vs H Q E h => SpLen.len h) (fun cdv A outer s H vs Q E hr h => ?_)
  obtain ⟨F, v, u, t, n, rfl, e, r, ru, hn, k, kn⟩ := h
  cases (show u = _ from ru)
  have t0 := t.h0
  have t1 := t.h1
  have ri : ∀ F (i : Int), rInt F (.int i) i := fun F i => rfl
  have rn : ∀ F (i : Nat), rNat F (.int (i : Int)) i := fun F i => rfl
  refine ⟨_, (by exact (pss_cons (ps_set (i := 2) sc_blocks.nd rfl (Or.inl rfl) (pe_op op_rep (pe_lst (pa_cons pe_int pa_nil)) (kfld K (pv 0) rfl)))
      (pss_cons (ps_setLc (i := 3) (own := [("place", 4)]) (g := gName 4) (tt := tYes) rfl sc_blocks.nd rfl rfl (sw_true rfl rfl rfl (by decide +kernel)) (pi_range1 rfl T.z_range (pa_cons (kfld K (pv 0) rfl) pa_nil)) (blkOk_by (own := [("place", 4)]) (N := N_blocks) (sc := defScope s_blocks) (by decide +kernel)) (fun _ _ _ _ _ => (pg_name (i := 4) sc_blocks.nd rfl (by first | exact Or.inl rfl | exact Or.inr rfl))) (fun _ _ _ _ _ => pts_nil) (fun _ _ _ _ _ => (pe_op op_rep (pe_lst (pa_cons pe_int pa_nil)) (kfld K (pv 0) rfl))))
      (pss_cons (ps_for (passes_of rfl) rfl (klist K (pe_callS (ok_map_counts T) (hr.mono (by decide)) rfl T.g_map_counts T.F_map_counts.kp T.b_map_counts (fun σ => passAt (takes_of rfl rfl rfl rfl) σ) (pa_cons (pv 0) (pa_cons (pv 1) pa_nil)))) (kptup K (n := 2) rfl (pgs_cons (pg_name (i := 5) sc_blocks.nd rfl (by first | exact Or.inl rfl | exact Or.inr rfl)) (pgs_cons (pg_name (i := 6) sc_blocks.nd rfl (by first | exact Or.inl rfl | exact Or.inr rfl)) pgs_nil))) (pss_one (ps_if (pt_val (pe_call (ok_has_met T) (hr.mono (by decide)) rfl T.g_has_met T.F_has_met.kp T.b_has_met .nil pass0 (pa_cons (pv 5) pa_nil))) (pss_one (ps_augS (pv 2) (pe_ix (r := rIxT K) ix_tup (pv 5) pe_int (fun _ _ => rfl)) get_list (pv 6) ip_add set_list)) (pss_one (ps_for (passes_of rfl) rfl (kenumT K rfl T.z_enumerate (pa_cons (pv 5) pa_nil)) (kptup K (n := 2) rfl (pgs_cons (pg_name (i := 4) sc_blocks.nd rfl (by first | exact Or.inl rfl | exact Or.inr rfl)) (pgs_cons (pg_name (i := 7) sc_blocks.nd rfl (by first | exact Or.inl rfl | exact Or.inr rfl)) pgs_nil))) (pss_one (ps_augS (pe_ix (r := rIxL K) ix_list (pv 3) (pv 4) (fun _ _ => rfl)) (pv 7) get_list (pv 6) ip_add set_list)))))))
      (PSs.nox (pss_one (ps_ret (pe_tup (pa_cons (pv 2) (pa_cons (pv 3) pa_nil)))))))))), ?_⟩
  walk_at "n"
  refine x_repM (R := rInt) (x := 0) (n := t.many) e ev_int (ev_fld (ev_var rfl r)).nat (by omega) fun v2 lm F1 H1 g1 r2 hlm => ?_
  cases (show v2 = _ from r2)
  have fm1 : F1 lm = none := g1.fh.free hlm
  have hm0 : H lm = none := g1.free hlm
  have G1 : Gr M0 F H F1 (upd H1 lm (.lst (List.replicate t.many (V.int 0)))) := g1.trans (.loc g1.fh hlm)
  walk_at "n"
  refine x_zeros (n := t.many) (m := t.many) G1.fh (ev_fld (ev_var rfl (Mn.mono G1.ff r))).nat (fun i F2 H2 g2 => (ev_fld (ev_var rfl (Mn.mono (G1.trans g2).ff r))).nat) (by omega) (by omega) (fun v => rfl) fun lo as F2 H2 g2 hal ho0 fo2 ho2 nd hb => ?_
  have G2 := G1.trans g2
  have hml : lm ≠ lo := fun z => by subst z; rw [upd_same] at ho0; cases ho0
  have hmb : ∀ b ∈ as, b ≠ lm := fun b hb' z => by
    have := (hb b hb').1
    rw [z, upd_same] at this; cases this
  have ho00 : H lo = none := G1.free ho0
  have hb00 : ∀ b ∈ as, H b = none := fun b hb' => G1.free (hb b hb').1
  walk_at "n"
  refine e_mapCounts (n := n) G2.fh (ev_var rfl (Mn.mono G2.ff r)) (ev_var rfl (ri _ (n : Int))) hn (fun xs hxs ys perm w F3 H3 g3 r3 => ?_) fun hno F3 H3 g3 => kn (blocksM_none hno) F3 H3 (G2.trans g3)
  have ms := maps_spec hxs
  have hys : ∀ q ∈ ys, IsMap t.many q.1 := fun q hq => ms.isMap ((mc_in ms n).sub q (perm.mem_iff.mp hq))
  have G3 := G2.trans g3
  have hm2 : H2 lm = some (.lst (List.replicate t.many (V.int 0))) := g2.hx _ _ upd_same
  have fm2 : F2 lm = none := g2.nn upd_same fm1
  refine (x_forLP (K := K) (i := 5) (j := 6) (tl := tcv w) (R := rTup rNat) (S := rNat) (ps := ys) G3.fh (ev_cv r3)
    (fun i σ' F' H' => Gr M0 F H F' H' ∧ F' lm = none ∧ H' lm = some (.lst ((metL t.many (ys.take i)).map fun x : Nat => V.int (x : Int))) ∧ F' lo = none ∧ H' lo = some (.lst (as.map V.ref)) ∧ (∀ b ∈ as, F' b = none) ∧
      (∀ (j : Nat) b, as[j]? = some b → H' b = some (.lst ((ledR t.many (ys.take i) j).map fun x : Nat => V.int (x : Int)))) ∧ ∃ y4 y5 y6 y7, σ' = [some v, some (.int (n : Int)), some (.ref lm), some (.ref lo), y4, y5, y6, y7])
    (fun F4 H4 g4 => ⟨G3.trans g4, (g3.trans g4).nn hm2 fm2, ?_, (g3.trans g4).nn ho2 fo2, (g3.trans g4).hx _ _ ho2, fun b hb' => (g3.trans g4).nn (hb b hb').2.2.1 (hb b hb').2.1, fun j b hj => ?_, _, _, _, _, rfl⟩) ?_ ?_ : tFor (iList K (tcv w)) _ _ _ _ _)
  · rw [List.take_zero, metL_zero]; exact (g3.trans g4).hx _ _ hm2
  · rw [List.take_zero, ledR_zero]; exact (g3.trans g4).hx _ _ (hb b (mem_of_at hj)).2.2.1
  · rintro F4 e4 i q u5 u6 σ' F' H' hq e5 e6 r5 r6 ⟨g, fm, hM, fo, hO, fas, hA, y4, y5, y6, y7, rfl⟩
    cases (show u6 = _ from r6)
    have hqm := hys q (mem_of_at hq)
    have q1 := hqm.1
    walk_at "n"
    refine x_if e6 (et_B (ev_call1 (ev_var rfl r5) (by omega))) (fun hbb F5 H5 g5 => ?_) fun hbb F5 H5 g5 => ?_
    · have r55 := Mn.mono g5.ff r5
      have hh : q.1.headD 0 < t.many := headD_lt hqm t0
      walk_at "n"
      refine x_augI (n := q.1.headD 0) (a := (tot (ys.take i) (metP (q.1.headD 0)) : Int)) (b := (q.2 : Int)) g5.fh (ev_var rfl (show rRef _ _ lm from rfl)) (ev_ixT (ev_var rfl r55) ev_int (at0 (by omega))).nat (g5.hx _ _ hM) (by
        unfold metL
        rw [List.getElem?_map, List.getElem?_map, List.getElem?_range hh]; rfl) (ev_var rfl (ri _ (q.2 : Int))) fun F6 H6 g6 h6 => ?_
      have g56 := g5.trans g6
      have fm6 := g56.nn hM fm
      have G6 := (g.trans g56).set' (o := .lst (((metL t.many (ys.take i)).map fun x : Nat => V.int (x : Int)).set (q.1.headD 0) (.int ((tot (ys.take i) (metP (q.1.headD 0)) : Int) + (q.2 : Int))))) fm6 (.inl hm0)
      refine ⟨F6, e5.trans g56.ff, G6.fh, G6, fm6, ?_, g56.nn hO fo, by rw [upd_ne hml.symm]; exact g56.hx _ _ hO, fun b hb' => ?_, fun j b hj => ?_, _, _, _, _, rfl⟩
      · rw [upd_same, metL_step hq hbb]
        congr 2
        unfold metL
        exact set_fn hh
      · obtain ⟨j, hj⟩ := List.mem_iff_getElem?.mp hb'
        exact g56.nn (hA j b hj) (fas b hb')
      · rw [upd_ne (hmb b (mem_of_at hj)), ledR_stay hq hbb]
        exact g56.hx _ _ (hA j b hj)
    · have r55 := Mn.mono g5.ff r5
      walk_at "n"
      refine x_forET (R := rNat) (xs := q.1) g5.fh (ev_var rfl r55)
        (fun p σ' F' H' => Gr M0 F H F' H' ∧ F' lm = none ∧ H' lm = some (.lst ((metL t.many (ys.take i)).map fun x : Nat => V.int (x : Int))) ∧ F' lo = none ∧ H' lo = some (.lst (as.map V.ref)) ∧ (∀ b ∈ as, F' b = none) ∧
          (∀ (j : Nat) b, as[j]? = some b → H' b = some (.lst ((if j < p then ledR t.many (ys.take (i + 1)) j else ledR t.many (ys.take i) j).map fun x : Nat => V.int (x : Int)))) ∧ ∃ y4 y7, σ' = [some v, some (.int (n : Int)), some (.ref lm), some (.ref lo), y4, some u5, some (.int (q.2 : Int)), y7])
        (fun F6 H6 g6 => ⟨(g.trans g5).trans g6, (g5.trans g6).nn hM fm, (g5.trans g6).hx _ _ hM, (g5.trans g6).nn hO fo, (g5.trans g6).hx _ _ hO, (fun b hb' => by obtain ⟨j, hj⟩ := List.mem_iff_getElem?.mp hb'; exact (g5.trans g6).nn (hA j b hj) (fas b hb')), (fun j b hj => by rw [if_neg (Nat.not_lt_zero j)]; exact (g5.trans g6).hx _ _ (hA j b hj)), _, _, rfl⟩) ?_ ?_ ?_
      · rintro p σ' F' H' F7 H7 g7 ⟨g, fm, hM, fo, hO, fas, hA, y4, y7, rfl⟩
        exact ⟨g.trans g7, g7.nn hM fm, g7.hx _ _ hM, g7.nn hO fo, g7.hx _ _ hO, (fun b hb' => by obtain ⟨j, hj⟩ := List.mem_iff_getElem?.mp hb'; exact g7.nn (hA j b hj) (fas b hb')), fun j b hj => g7.hx _ _ (hA j b hj), _, _, rfl⟩
      · rintro F6 e7 p to u7 σ' F' H' hto e8 e9 r7 ⟨g, fm, hM, fo, hO, fas, hA, y4, y7, rfl⟩
        cases (show u7 = _ from r7)
        have hp : p < t.many := by rw [← q1]; exact (List.getElem?_eq_some_iff.mp hto).1
        have htn : to < t.many := hqm.2 to (mem_of_at hto)
        have hgd : q.1.getD p 0 = to := getD_eq hto
        obtain ⟨b, hb1⟩ : ∃ b, as[p]? = some b := ⟨_, List.getElem?_eq_getElem (by rw [hal]; exact hp)⟩
        have hbm := mem_of_at hb1
        have hcur := hA p b hb1
        rw [if_neg (Nat.lt_irrefl p)] at hcur
        walk_at "n"
        refine x_augI (l := b) (n := to) (a := (tot (ys.take i) (ledP p to) : Int)) (b := (q.2 : Int)) e9 (ev_ixM (R := rRef) (x := b) (ev_var rfl (show rRef _ _ lo from rfl)) (ev_var rfl (ri _ (p : Int))) hO (atI_natL (n := p) (by rw [List.getElem?_map, hb1]; rfl)) rfl) (ev_var rfl (ri _ (to : Int))) hcur (by
          unfold ledR
          rw [List.getElem?_map, List.getElem?_map, List.getElem?_range htn]; rfl) (ev_var rfl (ri _ (q.2 : Int))) fun F8 H8 g8 h8 => ?_
        have fb8 := g8.nn hcur (fas b hbm)
        have hbo : b ≠ lo := (hb b hbm).2.2.2
        have hbl : b ≠ lm := hmb b hbm
        have G8 := (g.trans g8).set' (o := .lst (((ledR t.many (ys.take i) p).map fun x : Nat => V.int (x : Int)).set to (.int ((tot (ys.take i) (ledP p to) : Int) + (q.2 : Int))))) fb8 (.inl (hb00 b hbm))
        refine ⟨F8, e8.trans g8.ff, G8.fh, G8, g8.nn hM fm, by rw [upd_ne hbl.symm]; exact g8.hx _ _ hM, g8.nn hO fo, by rw [upd_ne hbo.symm]; exact g8.hx _ _ hO, fun b' hb' => ?_, fun j b' hj => ?_, _, _, rfl⟩
        · obtain ⟨j, hj⟩ := List.mem_iff_getElem?.mp hb'
          exact g8.nn (hA j b' hj) (fas b' hb')
        · by_cases hjp : p = j
          · subst hjp
            rw [hb1] at hj
            cases hj
            rw [upd_same, if_pos (Nat.lt_succ_self p), ledR_step hq hbb, hgd]
            congr 2
            unfold ledR
            exact set_fn htn
          · have hbb' : b' ≠ b := fun z => by
              subst z
              exact hjp ((List.getElem?_inj (List.getElem?_eq_some_iff.mp hb1).1 nd).mp (hb1.trans hj.symm))
            rw [upd_ne hbb']
            have := g8.hx _ _ (hA j b' hj)
            by_cases hjq : j < p
            · rw [if_pos hjq] at this
              rw [if_pos (by omega)]
              exact this
            · rw [if_neg hjq] at this
              rw [if_neg (by omega)]
              exact this
      · rintro σ' F' H' e7 e8 ⟨g, fm, hM, fo, hO, fas, hA, y4, y7, rfl⟩
        refine ⟨F', e5.trans (g5.ff.trans e7), e8, g, fm, by rw [metL_stay hq hbb]; exact hM, fo, hO, fas, fun j b hj => ?_, _, _, _, _, rfl⟩
        have hjl : j < q.1.length := by rw [q1, ← hal]; exact (List.getElem?_eq_some_iff.mp hj).1
        have := hA j b hj
        rw [if_pos hjl] at this
        exact this
  · rintro σ' F' H' e1 e2 ⟨g, fm, hM, fo, hO, fas, hA, y4, y5, y6, y7, rfl⟩
    rw [List.take_length] at hM hA
    obtain ⟨Fz, gz, ez, kz⟩ := Gr.frzs e (as := lm :: lo :: as) g fun b hb' => by
      rcases List.mem_cons.mp hb' with rfl | hb'
      · exact ⟨by rw [hM]; exact (fun z => nomatch z), hm0⟩
      rcases List.mem_cons.mp hb' with rfl | hb'
      · exact ⟨by rw [hO]; exact (fun z => nomatch z), ho00⟩
      · obtain ⟨q, hq⟩ := List.mem_iff_getElem?.mp hb'
        exact ⟨by rw [hA q b hq]; exact (fun z => nomatch z), hb00 b hb'⟩
    have rm : rLst rNat Fz (.ref lm) (metL t.many (mcM t n)) := by
      rw [← metL_perm perm]
      exact ⟨lm, _, rfl, by rw [kz lm List.mem_cons_self, hM], nats_P _ _⟩
    have ro : rLst (rLst rNat) Fz (.ref lo) (ledL t.many (mcM t n)) := by
      rw [← ledL_perm perm]
      refine ⟨lo, _, rfl, by rw [kz lo (List.mem_cons_of_mem _ List.mem_cons_self), hO], paired_of (by unfold ledL; rw [List.length_map, List.length_map, List.length_range, hal]) fun i a b ha hb' => ?_⟩
      rw [List.getElem?_map] at ha
      cases q : as[i]? with
      | none => rw [q] at ha; cases ha
      | some c =>
        rw [q] at ha
        cases ha
        have hi : i < t.many := by rw [← hal]; exact (List.getElem?_eq_some_iff.mp q).1
        unfold ledL at hb'
        rw [List.getElem?_map, List.getElem?_range hi] at hb'
        cases hb'
        exact ⟨c, _, rfl, by rw [kz c (List.mem_cons_of_mem _ (List.mem_cons_of_mem _ (mem_of_at q))), hA i c q], nats_P _ _⟩
    walk_at "n"
    exact x_ret (R := rPr (rLst rNat) (rLst (rLst rNat))) (x := (metL t.many (mcM t n), ledL t.many (mcM t n))) gz.fh (ev_pr (ev_var rfl rm) (ev_var rfl ro)) fun v' F9 H9 g9 r9 => k _ (blocksM_some hxs) v' F9 H9 (gz.trans g9) r9

abbrev sp_NeverMeets_init (T : Tx K mg) : Sp := spKeep T.C_NeverMeets "pair"
theorem ok_NeverMeets_init (T : Tx K mg) : FnOk P w K mg base CX0 1 T.a_NeverMeets_init T.d_NeverMeets_init ["self", "pair"] (sp_NeverMeets_init T) := by
  refine T.F_NeverMeets_init.ok sc_NeverMeets_init (fun vs H Q E h => SpLen.len h) (fun cdv A outer s H vs Q E hr h => ?_)
  obtain ⟨a, v, rfl, ha, k⟩ := h
  refine ⟨_, (by exact (pss_cons (ps_expr (pe_dinit T.base_DrawError rfl T.g_DrawError (pa_cons (pv 0) (pa_cons pe_str pa_nil))))
      (pss_one (ps_ost (pv 0) (pv 1))))), ?_⟩
  walk_at "n"
  refine ⟨.ref a, rfl, a, T.C_NeverMeets, [_], rfl, by show 1 ≤ 1000; decide, T.oex_NeverMeets, ha, ?_⟩
  walk_at "n"
  refine ⟨v, rfl, .ref a, rfl, a, T.C_NeverMeets, rfl, T.oex_NeverMeets, T.nf_NeverMeets, .inl ⟨ha, fun dx hdx hne => ?_⟩⟩
  exact k dx hdx hne
abbrev sp_once_shares (T : Tx K mg) : Sp := SpOnce T.C_Turns T.C_Share T.C_TooMany T.C_NeverMeets
theorem ok_once_shares (T : Tx K mg) : FnOk P w K mg base (L2.CX P w) 7 T.a_once_shares T.d_once_shares ["turns", "long"] (sp_once_shares T) := by
  refine T.F_once_shares.okX sc_once_shares (fun vs H Q E h => SpLen.len h) (fun cdv A outer s H vs Q E hr h => ?_)
  obtain ⟨F, v, t, n, M, rfl, e, r, hn, hM1, hM, hbits, k, kz, kt⟩ := h
  have t0 := t.h0
  have t1 := t.h1
  have ri : ∀ F (i : Int), rInt F (.int i) i := fun F i => rfl
  refine ⟨_, (by exact (pss_cons (ps_asg (pe_callS (ok_blocks T) (hr.mono (by decide)) rfl T.g_blocks T.F_blocks.kp T.b_blocks (fun σ => passAt (takes_of rfl rfl rfl rfl) σ) (pa_cons (pv 0) (pa_cons (pv 1) pa_nil))) (kptup K (n := 2) rfl (pgs_cons (pg_name (i := 2) sc_once_shares.nd rfl (by first | exact Or.inl rfl | exact Or.inr rfl)) (pgs_cons (pg_name (i := 3) sc_once_shares.nd rfl (by first | exact Or.inl rfl | exact Or.inr rfl)) pgs_nil))))
      (pss_cons (ps_if (pt_cmpR op_eq (pe_callB (r := rSum K) (cr_sum rfl) (by rfl) T.z_sum (by decide +kernel) (pa_cons (pv 2) pa_nil)) pe_int (nomark _)) (pss_one (ps_raise rfl (takes_of rfl rfl rfl rfl) (pmk_oex T.oex_NeverMeets T.ii_NeverMeets T.tf_NeverMeets (ok_NeverMeets_init T) (hr.mono (by decide)) T.b_NeverMeets_init .nil pass0 rfl T.g_NeverMeets (pa_cons pe_non pa_nil)))) pss_nil)
      (PSs.nox (pss_cons (ps_set (i := 4) sc_once_shares.nd rfl (Or.inr rfl) (pe_op op_add (pe_callB (r := rSum K) (cr_sum rfl) (by rfl) T.z_sum (by decide +kernel) (pa_cons (pv 2) pa_nil)) (pe_callB (r := rSum K) (cr_sum rfl) (by rfl) T.z_sum (by decide +kernel) (pa_cons (pe_ix (r := rIxL K) ix_list (pv 3) pe_int (fun _ _ => rfl)) pa_nil))))
      (pss_cons (ps_set (i := 5) sc_once_shares.nd rfl (Or.inl rfl) (pe_lst pa_nil))
      (pss_cons (ps_for PassesOwn.never rfl (pi_range1 rfl T.z_range (pa_cons (kfld K (pv 0) rfl) pa_nil)) (pg_name (i := 6) sc_once_shares.nd rfl (by first | exact Or.inl rfl | exact Or.inr rfl)) (pss_cons (ps_setLc (i := 7) (own := [("place", 8)]) (g := gName 8) (tt := tYes) rfl sc_once_shares.nd rfl rfl (sw_true rfl rfl rfl (by decide +kernel)) (pi_range1 rfl T.z_range (pa_cons (kfld K (pv 0) rfl) pa_nil)) (blkOk_by (own := [("place", 8)]) (N := N_once_shares) (sc := defScope s_once_shares) (by decide +kernel)) (fun _ _ _ _ _ => (pg_name (i := 8) sc_once_shares.nd rfl (by first | exact Or.inl rfl | exact Or.inr rfl))) (fun _ _ _ _ _ => pts_nil) (fun _ _ _ _ _ => (pe_op op_sub (pe_op op_mul (pv 4) (pe_callTy call_int1 (by rfl) T.z_int (by decide +kernel) (pa_cons (pe_cmpR op_eq (pv 8) (pv 6) (nomark _)) pa_nil))) (pe_ix (r := rIxL K) ix_list (pe_ix (r := rIxL K) ix_list (pv 3) (pv 8) (fun _ _ => rfl)) (pv 6) (fun _ _ => rfl)))))
      (pss_one (ps_expr (kbm K PySem.F.plainAttrs_list PySem.F.slot_list_append PySem.F.type_list_append mt_append (pv 5) (pa_cons (pe_op op_cat (pv 7) (pe_lst (pa_cons (pe_ix (r := rIxL K) ix_list (pv 2) (pv 6) (fun _ _ => rfl)) pa_nil))) pa_nil))))))
      (pss_one (ps_ret (pe_lc (own := [("shares", 9)]) (g := gName 9) (tt := tYes) rfl sc_once_shares.nd (klist K (pe_call (ok_solved T) (hr.mono (by decide)) rfl T.g_solved T.F_solved.kp T.b_solved .nil pass0 (pa_cons (pv 5) pa_nil))) (blkOk_by (own := [("shares", 9)]) (N := N_once_shares) (sc := defScope s_once_shares) (by decide +kernel)) (fun _ _ _ _ _ => (pg_name (i := 9) sc_once_shares.nd rfl (by first | exact Or.inl rfl | exact Or.inr rfl))) (fun _ _ _ _ _ => pts_nil) (fun _ _ _ _ _ => (pe_ix (r := rIxL K) ix_list (pv 9) pe_int (fun _ _ => rfl))))))))))))), ?_⟩
  walk_at "n"
  refine e_callT2 (x := t) (y := n) e (ev_var rfl r) (ev_var rfl (show rNat _ _ n from rfl)) hn (fun z hz w F1 H1 g1 r1 => ?_) fun hno F1 H1 g1 => ?_
  · cases hx : mapsM t with
    | none => rw [blocksM_none hx] at hz; cases hz
    | some xs =>
    rw [blocksM_some hx] at hz
    cases hz
    have r1 : rPr (rLst rNat) (rLst (rLst rNat)) F1 w (mtT t n, ldT t n) := r1
    refine (x_pair (i := 2) (j := 3) (R := rLst rNat) (S := rLst (rLst rNat)) (p := (mtT t n, ldT t n)) g1.fh (ev_cv (R := rPr (rLst rNat) (rLst (rLst rNat))) r1) fun v2 v3 F2 H2 g2 r2 r3 => ?_ : tAsg (tcv w) (gTup K 2 (gCons (gName 2) (gCons (gName 3) gNil))) _ _ _)
    have G2 := g1.trans g2
    have r2 : rLst rNat F2 v2 (mtT t n) := r2
    have r3 : rLst (rLst rNat) F2 v3 (ldT t n) := r3
    walk_at "n"
    refine x_if (b := decide ((mtT t n).sum = 0)) g2.fh ((et_test (ev_eqI (ev_nsumL (ev_var rfl r2)) ev_int)).is (decide_eq_decide.mpr ⟨fun h => by omega, fun h => by omega⟩)) (fun hb F3 H3 g3 => ?_) fun hb F3 H3 g3 => ?_
    · exact x_raise (C := T.C_NeverMeets) (f := ("pair" : Str)) (W := fun cls d _ H => E cls d H) (R := rNon) (x := ()) g3.fh ev_non fun v d F' H' g r hd => kz xs hx (of_decide_eq_true hb) v d F' H' (G2.trans (g3.trans g)) r hd
    have hs := of_decide_eq_false hb
    have o := once_ok hs
    have sv := once_solvT hs hM1 hM hbits
    have G3 := G2.trans g3
    have r23 := Mn.mono g3.ff r2
    have r33 := Mn.mono g3.ff r3
    have hl0 : (ldT t n)[0]? = some ((ldT t n).getD 0 []) := at_getD (by rw [o.ll]; exact t0)
    walk_at "n"
    refine x_set (R := rInt) (x := ((t.maps.length ^ n : Nat) : Int)) g3.fh (Ev.is (ev_add (ev_nsumL (ev_var rfl r23)) (ev_nsumL (ev_ixL (ev_var rfl r33) ev_int (atI_natL (n := 0) hl0)))) (by rw [← o.sum 0 t0, Int.natCast_add])) fun v4 F4 H4 g4 r4 => ?_
    cases (show v4 = _ from r4)
    have G4 := G3.trans g4
    walk_at "n"
    refine x_nil g4.fh fun l hl => ?_
    have hl00 : H l = none := G4.free hl
    have fl4 : F4 l = none := g4.fh.free hl
    have G5 : Gr M0 F H F4 (upd H4 l (.lst [])) := G4.trans (.loc g4.fh hl)
    let f : Nat → List Int := fun to => ((List.range t.many).map fun p => (((mtT t n).sum + ((ldT t n).getD 0 []).sum : Nat) : Int) * (if p = to then 1 else 0) - (((ldT t n).getD p []).getD to 0 : Int)) ++ [((mtT t n).getD to 0 : Int)]
    walk_at "n"
    refine x_forR (n := t.many) G5.fh (ev_fld (ev_var rfl (Mn.mono G5.ff r))).nat (by omega)
      (fun i σ' F' H' => Gr M0 F H F' H' ∧ Ex F4 F' ∧ F' l = none ∧ (∃ vs, H' l = some (.lst vs) ∧ Paired (rLst rInt F') vs ((List.range i).map f)) ∧ ∃ y1 y2 y3 y4, σ' = [some v, some (.int (n : Int)), some v2, some v3, some (.int ((t.maps.length ^ n : Nat) : Int)), some (.ref l), y1, y2, y3, y4])
      (fun F6 H6 g6 => ⟨G5.trans g6, g6.ff, g6.nn upd_same fl4, ⟨[], g6.hx _ _ upd_same, .nil⟩, _, _, _, _, rfl⟩) ?_ ?_
    · rintro F6 e6 to σ' F' H' hto e7 e8 ⟨g, ex4, fl, ⟨vs, hL, pv⟩, y1, y2, y3, y4, rfl⟩
      have hvl : vs.length ≤ 32 := by rw [pv.length, List.length_map, List.length_range]; omega
      have r2a := Mn.mono (g4.ff.trans ex4) r23
      have r3a := Mn.mono (g4.ff.trans ex4) r33
      walk_at "n"
      refine x_set (R := rLst rInt) (x := (List.range t.many).map fun p => (((mtT t n).sum + ((ldT t n).getD 0 []).sum : Nat) : Int) * (if p = to then 1 else 0) - (((ldT t n).getD p []).getD to 0 : Int)) e8 (ev_lcRm (S := rInt) _ (ev_fld (ev_var rfl (Mn.mono g.ff r))).nat (by omega) (fun v => rfl) fun p F7 H7 hp g7 => ?_) fun v7 F7 H7 g7 r7 => ?_
      · refine Ev.is (ev_sub (ev_mul (ev_var rfl (ri _ ((t.maps.length ^ n : Nat) : Int))) (ev_intB (ev_eqI (ev_var rfl (ri _ (p : Int))) (ev_var rfl (ri _ (to : Int))))) (.inr ?_)) (ev_ixL (ev_ixL (ev_var rfl (Mn.mono g7.ff r3a)) (ev_var rfl (ri _ (p : Int))) (atI_natL (at_getD (d := []) (by rw [o.ll]; exact hp)))) (ev_var rfl (ri _ (to : Int))) (atI_natL (at_getD (d := 0) (by rw [o.lr p hp]; exact hto)))).nat) ?_
        · by_cases z : (p : Int) = (to : Int)
          · rw [decide_eq_true z]; exact ⟨by decide, by decide⟩
          · rw [decide_eq_false z]; exact ⟨by decide, by decide⟩
        · rw [o.sum 0 t0]
          congr 2
          by_cases z : p = to
          · rw [if_pos z, if_pos (decide_eq_true (by omega))]
          · rw [if_neg z, if_neg (by rw [decide_eq_false (by omega)]; exact Bool.false_ne_true)]
      · have fl7 := g7.nn hL fl
        have hL7 := g7.hx _ _ hL
        walk_at "n"
        refine x_app (R := rLst rInt) (x := f to) g7.fh (ev_var rfl (show rRef _ _ l from rfl)) hL7 (ev_cat (ev_var rfl r7) (ev_lst (el_cons (ev_ixL (ev_var rfl (Mn.mono g7.ff r2a)) (ev_var rfl (ri _ (to : Int))) (atI_natL (at_getD (d := 0) (by rw [o.ml]; exact hto)))).nat el_nil) (by show 1 ≤ sizeLine; decide)) ?_) (by rw [sizeLine_eq]; omega) fun v8 F8 H8 g8 r8 h8 => ?_
        · rw [List.length_map, List.length_range, sizeLine_eq]
          show t.many + 1 ≤ _
          omega
        have g78 := g7.trans g8
        have fl8 := g8.nn hL7 fl7
        have G8 := (g.trans g78).set' (o := .lst (vs ++ [v8])) fl8 (.inl hl00)
        refine ⟨F8, e7.trans g78.ff, G8.fh, G8, ex4.trans g78.ff, fl8, ⟨_, upd_same, ?_⟩, _, _, _, _, rfl⟩
        rw [List.range_succ, List.map_append]
        exact (Paired.up g78.ff pv).snoc r8
    · rintro σ' F' H' e1 e2 ⟨g, ex4, fl, ⟨vs, hL, pv⟩, y1, y2, y3, y4, rfl⟩
      have gz := g.frz hL (e.free hl00) (.inl hl00)
      have hrows : rRows (upd F' l (.lst vs)) (.ref l) (onceRows t.many (mtT t n) (ldT t n)) := ⟨l, _, rfl, upd_same, Paired.up (Ex.new fl) pv⟩
      have hsol := (solR_sol sv).1
      have hw := (solR_sol sv).2.1
      rw [once_len] at hsol hw
      walk_at "n"
      refine x_ret (R := rLst (rShare T.C_Share)) (x := onceV t n) gz.fh (Ev.is (ev_lcm (R := rLst (rShare T.C_Share)) (S := rShare T.C_Share) (fun q => q.getD 0 0) (ev_solved (ev_var rfl hrows) sv) (by rw [hsol]; omega) (fun v => rfl) fun i x u F9 H9 hx g9 r9 => ev_ixL (ev_var rfl r9) ev_int (atI_natL (n := 0) (at_getD (by rw [hw x (mem_of_at hx)]; omega)))) ?_) fun w F9 H9 g9 r9 => k xs hx hs w F9 H9 (gz.trans g9) r9
      refine ext_getD 0 (by unfold onceV; rw [List.length_map, List.length_map, List.length_range, hsol]) fun i hi => ?_
      rw [List.length_map, hsol] at hi
      unfold onceV
      rw [getD_range hi]
      refine getD_eq ?_
      rw [List.getElem?_map, at_getD (d := []) (by rw [hsol]; exact hi)]
      rfl
  · cases hx : mapsM t with
    | none => exact kt hx F1 H1 g1
    | some xs => rw [blocksM_some hx] at hno; cases hno

abbrev sp_read_once (T : Tx K mg) : Sp := Sp3 (rTurns T.C_Turns) rNat (rLst rNat) (fun t n w => (∀ s ∈ w, s < t.maps.length) ∧ w.length ≤ 1000000 ∧ 1 ≤ n ∧ n ≤ 1000) (rOpt (rPr rNat rNat)) readOnceM
theorem cast_div (a b : Nat) : ((a : Int) / (b : Int)) = ((a / b : Nat) : Int) := (Int.natCast_ediv a b).symm
theorem ok_read_once (T : Tx K mg) : FnOk P w K mg base CX0 5 T.a_read_once T.d_read_once ["turns", "long", "word"] (sp_read_once T) := by
  refine T.F_read_once.ok sc_read_once (fun vs H Q E h => SpLen.len h) (fun cdv A outer s H vs Q E hr h => ?_)
  obtain ⟨F, v, u, w, t, n, xs, rfl, e, r1, r2, r3, ⟨p, hz, n0, n1⟩, k⟩ := h
  have t0 := t.h0
  have t1 := t.h1
  cases (show u = _ from r2)
  refine ⟨_, (by exact (pss_cons (ps_expr (pe_call (ok_check_signs T) (hr.mono (by decide)) rfl T.g_check_signs T.F_check_signs.kp T.b_check_signs .nil pass0 (pa_cons (pv 0) (pa_cons (pv 2) pa_nil))))
      (pss_cons (ps_set (i := 3) sc_read_once.nd rfl (Or.inl rfl) pe_non)
      (pss_cons (ps_for PassesOwn.never rfl (pi_range1 rfl T.z_range (pa_cons (pe_op op_fdiv (pe_callB (r := rLenS K) call_len_seq (by rfl) T.z_len PySem.boot_len (pa_cons (pv 2) pa_nil)) (pv 1)) pa_nil)) (pg_name (i := 4) sc_read_once.nd rfl (by first | exact Or.inl rfl | exact Or.inr rfl)) (pss_cons (ps_set (i := 5) sc_read_once.nd rfl (Or.inl rfl) (pe_call (ok_map_of T) (hr.mono (by decide)) rfl T.g_map_of T.F_map_of.kp T.b_map_of .nil pass0 (pa_cons (pv 0) (pa_cons (pe_slice (r := rSlL K) sl_list (pv 2) (po_some (pe_op op_mul (pv 4) (pv 1))) (po_some (pe_op op_mul (pe_op op_add (pv 4) pe_int) (pv 1)))) pa_nil))))
      (pss_one (ps_if (pt_cmpR op_isN1 (pv 3) pe_non (nomark _)) (pss_one (ps_set (i := 3) sc_read_once.nd rfl (Or.inl rfl) (pe_ifExp (pt_val (pe_call (ok_has_met T) (hr.mono (by decide)) rfl T.g_has_met T.F_has_met.kp T.b_has_met .nil pass0 (pa_cons (pv 5) pa_nil))) (pe_ix (r := rIxT K) ix_tup (pv 5) pe_int (fun _ _ => rfl)) pe_non))) (pss_one (ps_if (pt_val (pe_call (ok_has_met T) (hr.mono (by decide)) rfl T.g_has_met T.F_has_met.kp T.b_has_met .nil pass0 (pa_cons (pv 5) pa_nil))) (pss_one (ps_ret (pe_tup (pa_cons (pv 3) (pa_cons (pe_op op_add (pv 4) pe_int) pa_nil))))) (pss_one (ps_set (i := 3) sc_read_once.nd rfl (Or.inl rfl) (pe_ix (r := rIxT K) ix_tup (pv 5) (pv 3) (fun _ _ => rfl))))))))))
      (pss_one (ps_ret pe_non)))))), ?_⟩
  walk_at "n"
  refine x_drop e (ev_call2 (ev_var rfl r1) (ev_var rfl r3) p) fun F1 H1 g1 => ?_
  walk_at "n"
  refine x_set g1.fh (ev_noneO (R := rNat)) fun v2 F2 H2 g2 r4 => ?_
  walk_at "n"
  refine x_forR (n := xs.length / n) g2.fh (Ev.is (ev_fdiv (ev_lenL (ev_var rfl (Mn.mono (g1.ff.trans g2.ff) r3))) (ev_var rfl rfl) ⟨by omega, by omega⟩) (cast_div _ _)) (Nat.le_trans (Nat.div_le_self _ _) (by omega))
    (fun i σ' F' H' => Gr M0 F H F' H' ∧ ∃ sv st y y2, σ' = [some v, some (.int (n : Int)), some w, some sv, y, y2] ∧ rOpt rNat F' sv st ∧ (∀ s, st = some s → s < t.many) ∧ readOnceM t n xs = roLoop t n xs (xs.length / n - i) i st)
    (fun F3 H3 g => ⟨(g1.trans g2).trans g, v2, none, none, none, rfl, Mn.mono g.ff r4, (fun s h => nomatch h), rfl⟩) ?_ ?_
  · rintro F3 e3 i σ' F' H' hi e4 e5 ⟨g, sv, st, y, y2, rfl, rs, hs, hro⟩
    have hlen : xs.length / n ≤ xs.length := Nat.div_le_self _ _
    have hw : ∀ s ∈ (xs.drop (i * n)).take n, s < t.maps.length := fun s h => p s (List.mem_of_mem_drop (List.mem_of_mem_take h))
    have hm : IsMap t.many (mapW t ((xs.drop (i * n)).take n)) := isMap_mapW hw
    have m1 := hm.1
    walk_at "n"
    refine x_set (R := rTup rNat) (x := mapW t ((xs.drop (i * n)).take n)) e5 (ev_call2 (y := (xs.drop (i * n)).take n) (ev_var rfl (Mn.mono g.ff r1)) (Ev.is (ev_slL (lo := some ((i * n : Nat) : Int)) (hi := some (((i + 1) * n : Nat) : Int)) (ev_var rfl (Mn.mono g.ff r3)) (eo_some (Ev.is (ev_mul (ev_var rfl (show rInt _ _ (i : Int) from rfl)) (ev_var rfl (show rInt _ _ (n : Int) from rfl)) (.inl ⟨by omega, by omega⟩)) (by rw [Int.natCast_mul])))
        (eo_some (Ev.is (ev_mul (ev_add (ev_var rfl (show rInt _ _ (i : Int) from rfl)) ev_int) (ev_var rfl (show rInt _ _ (n : Int) from rfl)) (.inl ⟨by omega, by omega⟩)) (by rw [Int.natCast_mul, Int.natCast_add]; rfl)))) ?_) hw) fun vo F4 H4 g4 ro => ?_
    · rw [cut_mid (Nat.mul_le_mul_right _ (Nat.le_succ i)), Nat.succ_mul, Nat.add_sub_cancel_left]
    have hsub : xs.length / n - i = (xs.length / n - (i + 1)) + 1 := by omega
    rw [hsub] at hro
    walk_at "n"
    refine x_if g4.fh (et_test (ev_isN (ev_var rfl (Mn.mono g4.ff rs)))) (fun hb F5 H5 g5 => ?_) (fun hb F5 H5 g5 => ?_)
    · cases st with
      | some s => cases hb
      | none =>
        have ro5 := Mn.mono g5.ff ro
        refine x_set (R := rOpt rNat) (x := plc (mapW t ((xs.drop (i * n)).take n))) g5.fh (ev_if (et_B (ev_call1 (ev_var rfl ro5) (by omega))) (fun _ => ev_someO (R := rNat) (ev_ixT (ev_var rfl ro5) ev_int (at0 (by omega)))) (fun _ => ev_noneO)) fun v6 F6 H6 g6 r6 => ?_
        refine ⟨F6, e4.trans (g4.ff.trans (g5.ff.trans g6.ff)), g6.fh, g.trans (g4.trans (g5.trans g6)), v6, _, _, _, rfl, r6, fun s h => ?_, hro⟩
        unfold plc at h
        split at h
        · cases h; exact headD_lt hm t0
        · cases h
    · cases st with
      | none => cases hb
      | some s =>
        have ro5 := Mn.mono g5.ff ro
        have rs5 : rNat F5 sv s := Mn.mono (R := rNat) (g4.ff.trans g5.ff) rs
        have hsn := hs s rfl
        refine x_if g5.fh (et_B (ev_call1 (ev_var rfl ro5) (by omega))) (fun hb F6 H6 g6 => ?_) (fun hb F6 H6 g6 => ?_)
        · refine x_ret (R := rOpt (rPr rNat rNat)) (x := readOnceM t n xs) g6.fh ?_ fun v7 F7 H7 g7 r7 => k v7 F7 H7 (g.trans (g4.trans (g5.trans (g6.trans g7)))) r7
          rw [hro]
          show Ev _ _ _ _ _ (if metB (mapW t ((xs.drop (i * n)).take n)) = true then some (s, i + 1) else _)
          rw [if_pos hb]
          exact ev_someO (R := rPr rNat rNat) (ev_pr (R := rNat) (S := rNat) (x := s) (y := i + 1) (ev_var rfl (Mn.mono g6.ff rs5)) (Ev.toNat (Ev.is (ev_add (ev_var rfl (show rInt _ _ (i : Int) from rfl)) ev_int) (by rw [Int.natCast_add]; rfl))))
        · refine x_set (R := rNat) (x := (mapW t ((xs.drop (i * n)).take n)).getD s 0) g6.fh (ev_ixT (ev_var rfl (Mn.mono g6.ff ro5)) (Ev.nat (ev_var rfl (Mn.mono g6.ff rs5))) (atI_natL (getD_at (by omega)))) fun v7 F7 H7 g7 r7 => ?_
          refine ⟨F7, e4.trans (g4.ff.trans (g5.ff.trans (g6.ff.trans g7.ff))), g7.fh, g.trans (g4.trans (g5.trans (g6.trans g7))), v7, some ((mapW t ((xs.drop (i * n)).take n)).getD s 0), _, _, rfl, r7, fun z h => ?_, ?_⟩
          · cases h
            have hl : s < (mapW t ((xs.drop (i * n)).take n)).length := by omega
            rw [List.getD_eq_getElem?_getD, List.getElem?_eq_getElem hl]
            exact hm.2 _ (List.getElem_mem hl)
          · rw [hro]
            show (if metB (mapW t ((xs.drop (i * n)).take n)) = true then some (s, i + 1) else _) = _
            rw [if_neg (by rw [hb]; exact Bool.false_ne_true)]
  · rintro σ' F' H' e1 e2 ⟨g, sv, st, y, y2, rfl, rs, hs, hro⟩
    rw [Nat.sub_self] at hro
    walk_at "n"
    refine x_ret (R := rOpt (rPr rNat rNat)) (x := readOnceM t n xs) e2 ?_ fun v7 F7 H7 g7 r7 => k v7 F7 H7 (g.trans g7) r7
    rw [hro]
    show Ev _ _ _ _ _ none
    exact ev_noneO

abbrev sp__law_well (T : Tx K mg) : Sp := fun vs H Q _ => ∃ F i, vs = [.int i] ∧ ExT F H ∧ ∀ a H', Gr M0 F H F H' → H a = none → F a = none → Src H' a 1099511627776 → Q (.ref a) H'
instance {T : Tx K mg} : SpLen (sp__law_well T) 1 := ⟨fun ⟨_, _, h, _⟩ => by rw [h]; rfl⟩
theorem ok__law_well (T : Tx K mg) : FnOk P w K mg base CX0 1 T.a__law_well T.d__law_well ["_law_cell"] (sp__law_well T) := by
  refine T.F__law_well.ok sc__law_well (fun vs H Q E h => SpLen.len h) (fun cdv A outer s H vs Q E hr h => ?_)
  obtain ⟨F, i, rfl, e, k⟩ := h
  refine ⟨_, (by exact (pss_one (ps_ret (pe_lst (pa_cons (pe_op op_mul (pv 0) (pe_callTy call_int1 (by rfl) T.z_int (by decide +kernel) (pa_cons (pe_cmpR op_ge (pv 0) (pe_op op_pow pe_int pe_int) (nomark _)) pa_nil))) (pa_cons (pe_op op_mod (pv 0) pe_int) (pa_cons pe_int pa_nil))))))), ?_⟩
  have mk : ∀ j : Int, 0 ≤ j → tRet (fun _ H' Q' => (3 : Nat) ≤ sizeLine ∧ ∀ p, H' p = none → Q' (.ref p) (upd H' p (.lst [.int j, .int (i % 2147483647), .int 0]))) { nx := fun x H' => Q V.non H', rt := Q } (L2.start N__law_well [.int i]) H := fun j hj => by
    refine ⟨by decide, fun p hp => k p _ (.loc e hp) hp (e.free hp) ⟨j, i % 2147483647, 0, upd_same, hj, by omega, by omega, by omega, by omega⟩⟩
  by_cases h : (10 : Int) ^ (18 : Int).toNat ≤ i
  · have h0 : (0 : Int) ≤ i * 1 := by
      have : (0 : Int) ≤ (10 : Int) ^ (18 : Int).toNat := by decide
      omega
    have := mk (i * 1) h0
    refine ⟨.int i, rfl, .int i, rfl, 10, 18, rfl, rfl, ⟨by decide, by decide, by decide⟩, i, _, rfl, rfl, .inr ⟨true, by show [V.bl (decide ((10 : Int) ^ (18 : Int).toNat ≤ i))] = _; rw [decide_eq_true h], ?_⟩⟩
    refine ⟨i, 1, rfl, rfl, .inr ⟨by omega, by omega⟩, ?_⟩
    exact ⟨.int i, rfl, i, 2147483647, rfl, rfl, (by show (0 : Int) < 2147483647; decide), this⟩
  · have := mk (i * 0) (by omega)
    refine ⟨.int i, rfl, .int i, rfl, 10, 18, rfl, rfl, ⟨by decide, by decide, by decide⟩, i, _, rfl, rfl, .inr ⟨false, by show [V.bl (decide ((10 : Int) ^ (18 : Int).toNat ≤ i))] = _; rw [decide_eq_false h], ?_⟩⟩
    refine ⟨i, 0, rfl, rfl, .inr ⟨by omega, by omega⟩, ?_⟩
    exact ⟨.int i, rfl, i, 2147483647, rfl, rfl, (by show (0 : Int) < 2147483647; decide), this⟩
abbrev sp__law_draw (T : Tx K mg) : Sp := SpS1 1 rNat (fun m => 0 < m ∧ m ≤ 1000000000) rNat (fun m d => d < m)
theorem nat_of_mod {i : Int} {m : Nat} (h : 0 < m) : ∃ d : Nat, i % (m : Int) = (d : Int) ∧ d < m := ⟨(i % (m : Int)).toNat, by have := Int.emod_nonneg i (show (m : Int) ≠ 0 by omega); omega, by have := Int.emod_lt_of_pos i (show (0 : Int) < m by omega); have := Int.emod_nonneg i (show (m : Int) ≠ 0 by omega); omega⟩
theorem prime_at (k : Int) : ∃ p : Int, atI [2147483647, 2147483629, 2147483587, 2147483579, 2147483563, 2147483549, (2147483543 : Int)] (k % 7) = some p ∧ 0 < p ∧ p < 2147483648 := by
  have h0 := Int.emod_nonneg k (show (7 : Int) ≠ 0 by decide)
  have h1 := Int.emod_lt_of_pos k (show (0 : Int) < 7 by decide)
  obtain ⟨j, hj⟩ : ∃ j : Nat, k % 7 = (j : Int) := ⟨(k % 7).toNat, by omega⟩
  rw [hj]
  have : j < 7 := by omega
  match j, this with
  | 0, _ => exact ⟨_, rfl, by decide, by decide⟩
  | 1, _ => exact ⟨_, rfl, by decide, by decide⟩
  | 2, _ => exact ⟨_, rfl, by decide, by decide⟩
  | 3, _ => exact ⟨_, rfl, by decide, by decide⟩
  | 4, _ => exact ⟨_, rfl, by decide, by decide⟩
  | 5, _ => exact ⟨_, rfl, by decide, by decide⟩
  | 6, _ => exact ⟨_, rfl, by decide, by decide⟩
theorem ok__law_draw (T : Tx K mg) : FnOk P w K mg base CX0 1 T.a__law_draw T.d__law_draw ["_law_well_here", "_law_many"] (sp__law_draw T) := by
  refine T.F__law_draw.ok sc__law_draw (fun vs H Q E h => SpLen.len h) (fun cdv A outer s H vs Q E hr h => ?_)
  obtain ⟨F, a, N, v, m, rfl, e, fa, ⟨n, c, kk, hs, n0, c0, c1, k0, kb⟩, r, ⟨m0, m1⟩, k⟩ := h
  cases (show v = _ from r)
  refine ⟨_, (by exact (pss_cons (ps_if (pt_cmpR op_gt (pe_ix (r := rIxL K) ix_list (pv 0) pe_int (fun _ _ => rfl)) pe_int (nomark _)) (pss_cons (ps_set (i := 2) sc__law_draw.nd rfl (Or.inl rfl) (pe_op op_mod (pe_ix (r := rIxL K) ix_list (pv 0) pe_int (fun _ _ => rfl)) (pv 1)))
      (pss_cons (ps_asg (pe_op op_fdiv (pe_ix (r := rIxL K) ix_list (pv 0) pe_int (fun _ _ => rfl)) (pv 1)) (pg_sub (pv 0) pe_int set_list))
      (pss_one (ps_ret (pv 2))))) pss_nil)
      (pss_cons (ps_asg (pe_op op_add (pe_ix (r := rIxL K) ix_list (pv 0) pe_int (fun _ _ => rfl)) pe_int) (pg_sub (pv 0) pe_int set_list))
      (pss_cons (ps_set (i := 3) sc__law_draw.nd rfl (Or.inl rfl) (pe_ix (r := rIxL K) ix_list (pe_lst (pa_cons pe_int (pa_cons pe_int (pa_cons pe_int (pa_cons pe_int (pa_cons pe_int (pa_cons pe_int (pa_cons pe_int pa_nil)))))))) (pe_op op_mod (pe_ix (r := rIxL K) ix_list (pv 0) pe_int (fun _ _ => rfl)) pe_int) (fun _ _ => rfl)))
      (pss_cons (ps_set (i := 4) sc__law_draw.nd rfl (Or.inl rfl) (pe_op op_mod (pe_op op_pow (pe_op op_add (pe_op op_add (pe_ix (r := rIxL K) ix_list (pv 0) pe_int (fun _ _ => rfl)) (pe_op op_mul pe_int (pe_ix (r := rIxL K) ix_list (pv 0) pe_int (fun _ _ => rfl)))) pe_int) pe_int) (pv 3)))
      (pss_cons (ps_set (i := 4) sc__law_draw.nd rfl (Or.inl rfl) (pe_op op_mod (pe_op op_mul (pe_op op_add (pv 4) (pe_ix (r := rIxL K) ix_list (pv 0) pe_int (fun _ _ => rfl))) (pe_op op_add (pe_op op_fdiv (pv 4) pe_int) pe_int)) (pv 3)))
      (pss_one (ps_ret (pe_op op_mod (pe_op op_fdiv (pv 4) pe_int) (pv 1)))))))))), ?_⟩
  have va : ∀ F, rRef F (.ref a) a := fun F => rfl
  have ri : ∀ F (i : Int), rInt F (.int i) i := fun F i => rfl
  walk_at "n"
  refine x_if e (et_test (ev_gt (ev_ixM (ev_var rfl (va _)) ev_int hs rfl (ri _ n)) ev_int)) (fun hb F1 H1 g1 => ?_) (fun hb F1 H1 g1 => ?_)
  · have hs1 := g1.hx _ _ hs
    have fa1 := g1.nn hs fa
    obtain ⟨d, hd, hdm⟩ := nat_of_mod (i := n) m0
    walk_at "n"
    refine x_set g1.fh (ev_mod (ev_ixM (ev_var rfl (va _)) ev_int hs1 rfl (ri _ n)) (ev_var rfl (ri _ m)) (by omega)) fun v2 F2 H2 g2 r2 => ?_
    cases (show v2 = _ from r2)
    walk_at "n"
    refine x_setI (n := 0) g2.fh (ev_fdiv (ev_ixM (ev_var rfl (va _)) ev_int (g2.hx _ _ hs1) rfl (ri _ n)) (ev_var rfl (ri _ m)) ⟨by omega, by omega⟩) (ev_var rfl (va _)) ev_int (g2.hx _ _ hs1) (by show 0 < 3; decide) fun v3 F3 H3 g3 r3 hl3 => ?_
    cases (show v3 = _ from r3)
    have fa3 := g3.nn (g2.hx _ _ hs1) (g2.nn hs1 fa1)
    have g4 : Gr (El.M1 a) F H F3 _ := ((g1.trans (g2.trans g3)).up).set' (o := .lst [.int (n / (m : Int)), .int c, .int kk]) fa3 (.inr ⟨rfl, e.nt hs⟩)
    refine x_ret g4.fh (ev_var rfl (ri _ (n % (m : Int)))) fun v5 F5 H5 g5 r5 => ?_
    refine k v5 d F5 H5 (g4.trans g5.up) (g5.nn upd_same fa3) ?_ hdm (by rw [hd] at r5; exact r5)
    exact ⟨n / m, c, kk, g5.hx _ _ upd_same, Int.ediv_nonneg n0 (by omega), c0, c1, k0, by omega⟩
  · have hs1 := g1.hx _ _ hs
    have fa1 := g1.nn hs fa
    walk_at "n"
    refine x_setI (n := 2) g1.fh (ev_add (ev_ixM (ev_var rfl (va _)) ev_int hs1 rfl (ri _ kk)) ev_int) (ev_var rfl (va _)) ev_int hs1 (by show 2 < 3; decide) fun v3 F3 H3 g3 r3 hl3 => ?_
    cases (show v3 = _ from r3)
    have fa3 := g3.nn hs1 fa1
    have g4 : Gr (El.M1 a) F H F3 _ := ((g1.trans g3).up).set' (o := .lst [.int n, .int c, .int (kk + 1)]) fa3 (.inr ⟨rfl, e.nt hs⟩)
    obtain ⟨p, hp, p0, p1⟩ := prime_at (kk + 1)
    walk_at "n"
    refine x_set (R := rInt) (x := p) g4.fh (ev_ixL (ev_lst (R := rInt) (el_cons ev_int (el_cons ev_int (el_cons ev_int (el_cons ev_int (el_cons ev_int (el_cons ev_int (el_cons ev_int el_nil))))))) (by show 7 ≤ sizeLine; decide)) (ev_mod (ev_ixM (ev_var rfl (va _)) ev_int upd_same rfl (ri _ (kk + 1))) ev_int (by decide)) hp) fun v5 F5 H5 g5 r5 => ?_
    cases (show v5 = _ from r5)
    have hs5 := g5.hx _ _ (upd_same (H := H3) (a := a) (o := .lst [.int n, .int c, .int (kk + 1)]))
    walk_at "n"
    refine x_set g5.fh (ev_mod (ev_pow (ev_add (ev_add (ev_ixM (ev_var rfl (va _)) ev_int hs5 rfl (ri _ c)) (ev_mul ev_int (ev_ixM (ev_var rfl (va _)) ev_int hs5 rfl (ri _ (kk + 1))) (.inl ⟨by decide, by decide⟩))) ev_int) ev_int ⟨by decide, by decide, by omega⟩) (ev_var rfl (ri _ p)) p0) fun v6 F6 H6 g6 r6 => ?_
    generalize hx : (c + 7919 * (kk + 1) + 1) ^ (5 : Int).toNat % p = x at r6
    have x0 : 0 ≤ x := by rw [← hx]; exact Int.emod_nonneg _ (by omega)
    have x1 : x < p := by rw [← hx]; exact Int.emod_lt_of_pos _ p0
    cases (show v6 = _ from r6)
    have hs6 := g6.hx _ _ hs5
    walk_at "n"
    refine x_set g6.fh (ev_mod (ev_mul (ev_add (ev_var rfl (ri _ x)) (ev_ixM (ev_var rfl (va _)) ev_int hs6 rfl (ri _ (kk + 1)))) (ev_add (ev_fdiv (ev_var rfl (ri _ x)) ev_int ⟨by decide, by decide⟩) ev_int) (.inr ⟨by omega, by omega⟩)) (ev_var rfl (ri _ p)) p0) fun v7 F7 H7 g7 r7 => ?_
    generalize hy : (x + (kk + 1)) * (x / 1009 + 69621) % p = y at r7
    cases (show v7 = _ from r7)
    obtain ⟨d, hd, hdm⟩ := nat_of_mod (i := y / 7) m0
    walk_at "n"
    refine x_ret g7.fh (ev_mod (ev_fdiv (ev_var rfl (ri _ y)) ev_int ⟨by decide, by decide⟩) (ev_var rfl (ri _ m)) (by omega)) fun v8 F8 H8 g8 r8 => ?_
    have G := g5.trans (g6.trans (g7.trans g8))
    refine k v8 d F8 H8 (g4.trans G.up) (G.nn upd_same fa3) ?_ hdm (by rw [hd] at r8; exact r8)
    exact ⟨n, c, kk + 1, G.hx _ _ upd_same, n0, c0, c1, by omega, by omega⟩

abbrev sp__law_one (T : Tx K mg) : Sp := SpS1 1 (rLst rNat) (fun xs => 1 ≤ xs.length ∧ xs.length ≤ 100000) rNat (fun xs x => x ∈ xs)
theorem atI_lt {α : Type} {xs : List α} {d : Nat} (h : d < xs.length) : ∃ x, atI xs (d : Int) = some x := ⟨xs[d], atI_natL (List.getElem?_eq_getElem h)⟩
theorem atI_mem {α : Type} {xs : List α} {i : Int} {x : α} (h : atI xs i = some x) : x ∈ xs := by
  unfold atI at h
  cases q : ixN xs.length i with
  | none => rw [q] at h; cases h
  | some j => rw [q] at h; exact List.mem_of_getElem? h
theorem ok__law_one (T : Tx K mg) : FnOk P w K mg base CX0 2 T.a__law_one T.d__law_one ["_law_well_here", "_law_some"] (sp__law_one T) := by
  refine T.F__law_one.ok sc__law_one (fun vs H Q E h => SpLen.len h) (fun cdv A outer s H vs Q E hr h => ?_)
  obtain ⟨F, a, N, v, xs, rfl, e, fa, s, r, ⟨p1, p2⟩, k⟩ := h
  refine ⟨_, (by exact (pss_one (ps_ret (pe_ix (r := rIxL K) ix_list (pv 1) (pe_call (ok__law_draw T) (hr.mono (by decide)) rfl T.g__law_draw T.F__law_draw.kp T.b__law_draw .nil pass0 (pa_cons (pv 0) (pa_cons (pe_callB (r := rLenS K) call_len_seq (by rfl) T.z_len PySem.boot_len (pa_cons (pv 1) pa_nil)) pa_nil))) (fun _ _ => rfl))))), ?_⟩
  refine x_retS (es_ixL (xs := xs) (P2 := fun i => ∃ d : Nat, i = (d : Int) ∧ d < xs.length) (fun F1 H1 g fa1 => ev_var rfl (Mn.mono g.ff r)) (EvS.mono (EvS.nat (es_call1 (P1 := fun n => n = xs.length) rfl (es_pure (R := rNat) (x := xs.length) fun F1 H1 g fa1 => ev_lenL (ev_var rfl (Mn.mono g.ff r))) ?_)) ?_ (Nat.le_refl _)) ?_) e fa s (by omega) fun v' x F' H' g fa' s' p r' => ?_
  · rintro x rfl
    exact ⟨by omega, by omega⟩
  · rintro x ⟨n, rfl, m, rfl, h⟩
    exact ⟨n, rfl, h⟩
  · rintro i ⟨d, rfl, h⟩
    exact atI_lt h
  · obtain ⟨i, _, h⟩ := p
    exact k v' x F' H' g fa' (s'.le (by omega)) (atI_mem h) r'

abbrev sp__law_map (T : Tx K mg) : Sp := SpS1 40 rNat (fun n => 1 ≤ n ∧ n ≤ 32) (rTup rNat) (fun n m => IsMap n m)
theorem isMap_of_all {n : Nat} {l : List Nat} (h : l.length = n ∧ ∀ (i x : Nat), l[i]? = some x → x < n) : IsMap n l := ⟨h.1, fun x hx => by
  obtain ⟨i, hi⟩ := List.mem_iff_getElem?.mp hx
  exact h.2 i x hi⟩
theorem ok__law_map (T : Tx K mg) : FnOk P w K mg base CX0 3 T.a__law_map T.d__law_map ["_law_well_here", "_law_many"] (sp__law_map T) := by
  refine T.F__law_map.ok sc__law_map (fun vs H Q E h => SpLen.len h) (fun cdv A outer s H vs Q E hr h => ?_)
  obtain ⟨F, a, N, v, n, rfl, e, fa, s, r, ⟨n0, n1⟩, k⟩ := h
  cases (show v = _ from r)
  refine ⟨_, (by exact (pss_cons (ps_set (i := 2) sc__law_map.nd rfl (Or.inl rfl) (pe_call (ok__law_draw T) (hr.mono (by decide)) rfl T.g__law_draw T.F__law_draw.kp T.b__law_draw .nil pass0 (pa_cons (pv 0) (pa_cons pe_int pa_nil))))
      (pss_cons (ps_set (i := 3) sc__law_map.nd rfl (Or.inr rfl) (pe_call (ok__law_draw T) (hr.mono (by decide)) rfl T.g__law_draw T.F__law_draw.kp T.b__law_draw .nil pass0 (pa_cons (pv 0) (pa_cons (pv 1) pa_nil))))
      (pss_cons (ps_if (pt_cmpR op_eq (pv 2) pe_int (nomark _)) (pss_one (ps_ret (pe_callTy (r := rTupS K) call_tuple_of (by rfl) T.z_tuple (by decide +kernel) (pa_cons (pe_lc (own := [("_law_place", 4)]) (g := gName 4) (tt := tYes) rfl sc__law_map.nd (pi_range1 rfl T.z_range (pa_cons (pv 1) pa_nil)) (blkOk_by (own := [("_law_place", 4)]) (N := N__law_map) (sc := defScope s__law_map) (by decide +kernel)) (fun _ _ _ _ _ => (pg_name (i := 4) sc__law_map.nd rfl (by first | exact Or.inl rfl | exact Or.inr rfl))) (fun _ _ _ _ _ => pts_nil) (fun _ _ _ _ _ => (pe_op op_mod (pe_op op_add (pv 4) (pv 3)) (pv 1)))) pa_nil)))) pss_nil)
      (pss_cons (ps_if (pt_cmpR op_eq (pv 2) pe_int (nomark _)) (pss_one (ps_ret (pe_callTy (r := rTupS K) call_tuple_of (by rfl) T.z_tuple (by decide +kernel) (pa_cons (pe_lc (own := [("_law_place", 4)]) (g := gName 4) (tt := tYes) rfl sc__law_map.nd (pi_range1 rfl T.z_range (pa_cons (pv 1) pa_nil)) (blkOk_by (own := [("_law_place", 4)]) (N := N__law_map) (sc := defScope s__law_map) (by decide +kernel)) (fun _ _ _ _ _ => (pg_name (i := 4) sc__law_map.nd rfl (by first | exact Or.inl rfl | exact Or.inr rfl))) (fun _ _ _ _ _ => pts_nil) (fun _ _ _ _ _ => (pe_call (ok__law_one T) (hr.mono (by decide)) rfl T.g__law_one T.F__law_one.kp T.b__law_one .nil pass0 (pa_cons (pv 0) (pa_cons (pe_lst (pa_cons (pv 4) (pa_cons (pv 4) (pa_cons (pv 3) pa_nil)))) pa_nil))))) pa_nil)))) pss_nil)
      (pss_cons (ps_if (PW.pt (pw_and (pt_cmpR op_eq (pv 2) pe_int (nomark _)) (pw_and1 (pt_cmpR op_eq (pe_call (ok__law_draw T) (hr.mono (by decide)) rfl T.g__law_draw T.F__law_draw.kp T.b__law_draw .nil pass0 (pa_cons (pv 0) (pa_cons pe_int pa_nil))) pe_int (nomark _))))) (pss_one (ps_ret (pe_callTy (r := rTupS K) call_tuple_of (by rfl) T.z_tuple (by decide +kernel) (pa_cons (pe_lc (own := [("_law_place", 4)]) (g := gName 4) (tt := tYes) rfl sc__law_map.nd (pi_range1 rfl T.z_range (pa_cons (pv 1) pa_nil)) (blkOk_by (own := [("_law_place", 4)]) (N := N__law_map) (sc := defScope s__law_map) (by decide +kernel)) (fun _ _ _ _ _ => (pg_name (i := 4) sc__law_map.nd rfl (by first | exact Or.inl rfl | exact Or.inr rfl))) (fun _ _ _ _ _ => pts_nil) (fun _ _ _ _ _ => (pv 3))) pa_nil)))) pss_nil)
      (pss_one (ps_ret (pe_callTy (r := rTupS K) call_tuple_of (by rfl) T.z_tuple (by decide +kernel) (pa_cons (pe_lc (own := [("_law_place", 4)]) (g := gName 4) (tt := tYes) rfl sc__law_map.nd (pi_range1 rfl T.z_range (pa_cons (pv 1) pa_nil)) (blkOk_by (own := [("_law_place", 4)]) (N := N__law_map) (sc := defScope s__law_map) (by decide +kernel)) (fun _ _ _ _ _ => (pg_name (i := 4) sc__law_map.nd rfl (by first | exact Or.inl rfl | exact Or.inr rfl))) (fun _ _ _ _ _ => pts_nil) (fun _ _ _ _ _ => (pe_call (ok__law_draw T) (hr.mono (by decide)) rfl T.g__law_draw T.F__law_draw.kp T.b__law_draw .nil pass0 (pa_cons (pv 0) (pa_cons (pv 1) pa_nil))))) pa_nil)))))))))), ?_⟩
  have ri : ∀ F (i : Int), rInt F (.int i) i := fun F i => rfl
  have rn : ∀ F (i : Nat), rNat F (.int (i : Int)) i := fun F i => rfl
  walk_at "n"
  refine x_setS (es_callP rfl (fun _ _ _ _ => ev_lit (n := 5)) ⟨by omega, by omega⟩) e fa s (by omega) fun v1 w1 F1 H1 g1 fa1 s1 p1 r1 => ?_
  cases (show v1 = _ from r1)
  walk_at "n"
  refine x_setS (es_callP rfl (fun F _ _ _ => ev_var rfl (rn F n)) ⟨by omega, by omega⟩) g1.fh fa1 s1 (by omega) fun v2 w2 F2 H2 g2 fa2 s2 p2 r2 => ?_
  cases (show v2 = _ from r2)
  have g12 := g1.trans g2
  walk_at "n"
  refine x_ifS (a := a) (ets_pure fun F H g _ => et_test (ev_eqI (ev_var rfl (ri _ w1)) ev_int)) g2.fh fa2 s2 (by omega) (fun _ F3 H3 g3 fa3 s3 => ?_) (fun _ F3 H3 g3 fa3 s3 => ?_)
  · refine x_retS (a := a) (es_pure (R := rTup rNat) fun F H g _ => ev_tupL (ev_lcRm (fun p => (p + w2) % n) (ev_var rfl (ri _ n)) (by omega) (fun v => rfl) fun i F H hi g => Ev.toNat (Ev.is (ev_mod (ev_add (ev_var rfl (ri _ i)) (ev_var rfl (ri _ w2))) (ev_var rfl (ri _ n)) (by omega)) (by rw [Int.natCast_emod, Int.natCast_add])))) g3.fh fa3 s3 (by omega) fun v4 w4 F4 H4 g4 fa4 s4 p4 r4 => ?_
    refine k v4 w4 F4 H4 (g12.trans (g3.trans g4)) fa4 (s4.le (by omega)) ?_ r4
    rw [p4]
    refine ⟨by rw [List.length_map, List.length_range], fun x hx => ?_⟩
    obtain ⟨p, hp, rfl⟩ := List.mem_map.mp hx
    exact Nat.mod_lt _ (by omega)
  walk_at "n"
  refine x_ifS (a := a) (ets_pure fun F H g _ => et_test (ev_eqI (ev_var rfl (ri _ w1)) ev_int)) g3.fh fa3 s3 (by omega) (fun _ F4 H4 g4 fa4 s4 => ?_) (fun _ F4 H4 g4 fa4 s4 => ?_)
  · refine x_retS (R := rTup rNat) (es_tupL (es_lcRP (n := n) (B := 32) (c2 := 1) (P2 := fun _ x => x < n) (fun F H _ _ => ev_var rfl (ri _ n)) n1 (by omega) (fun v => rfl) fun i hi F H g _ => ?_)) g4.fh fa4 s4 (by omega) fun v5 w5 F5 H5 g5 fa5 s5 p5 r5 => k v5 w5 F5 H5 (g12.trans (g3.trans (g4.trans g5))) fa5 (s5.le (by omega)) (isMap_of_all p5) r5
    refine (es_callP (x := [i, i, w2]) rfl (fun F H _ _ => ev_lst (R := rNat) (el_cons (ev_var rfl (rn _ i)) (el_cons (ev_var rfl (rn _ i)) (el_cons (ev_var rfl (rn _ w2)) el_nil))) (by show 3 ≤ sizeLine; decide)) ⟨by show 1 ≤ 3; omega, by show 3 ≤ 100000; omega⟩).mono (fun x hx => ?_) (Nat.le_refl _)
    simp at hx
    rcases hx with rfl | rfl
    · exact hi
    · exact p2
  walk_at "n"
  refine x_ifS (P := fun _ => True) (c := 1) (a := a) (fun F H N g fa s Q q => ?_) g4.fh fa4 s4 (by omega) (fun _ F5 H5 g5 fa5 s5 => ?_) (fun _ F5 H5 g5 fa5 s5 => ?_)
  · exact (ets_and (ets_pure fun F H g _ => et_test (ev_eqI (ev_var rfl (ri _ w1)) ev_int)) (ets_test (es_eqI (EvS.nat (es_callP rfl (fun _ _ _ _ => ev_lit (n := 2)) ⟨by omega, by omega⟩)) es_int))) F H N g fa (s.le (by omega)) Q fun b F2 H2 g2 fa2 s2 _ => q b F2 H2 g2 fa2 s2 trivial
  · refine x_retS (a := a) (es_pure (R := rTup rNat) fun F H g _ => ev_tupL (ev_lcRm (fun _ => w2) (ev_var rfl (ri _ n)) (by omega) (fun v => rfl) fun i F H hi g => (ev_var rfl (rn _ w2)))) g5.fh fa5 s5 (by omega) fun v6 w6 F6 H6 g6 fa6 s6 p6 r6 => ?_
    refine k v6 w6 F6 H6 (g12.trans (g3.trans (g4.trans (g5.trans g6)))) fa6 (s6.le (by omega)) ?_ r6
    rw [p6]
    refine ⟨by rw [List.length_map, List.length_range], fun x hx => ?_⟩
    obtain ⟨p, hp, rfl⟩ := List.mem_map.mp hx
    exact p2
  · walk_at "n"
    refine x_retS (R := rTup rNat) (es_tupL (es_lcRP (n := n) (B := 32) (c2 := 1) (P2 := fun _ x => x < n) (fun F H _ _ => ev_var rfl (ri _ n)) n1 (by omega) (fun v => rfl) fun i hi F H g _ => es_callP rfl (fun F _ _ _ => ev_var rfl (rn F n)) ⟨by omega, by omega⟩)) g5.fh fa5 s5 (by omega) fun v6 w6 F6 H6 g6 fa6 s6 p6 r6 => k v6 w6 F6 H6 (g12.trans (g3.trans (g4.trans (g5.trans g6)))) fa6 (s6.le (by omega)) (isMap_of_all p6) r6
abbrev sp__law_turns (T : Tx K mg) : Sp := SpS1 200 rNat (fun n => 1 ≤ n ∧ n ≤ 32) (rPr rNat (rLst (rTup rNat))) (fun n p => 1 ≤ p.1 ∧ p.1 ≤ n ∧ 1 ≤ p.2.length ∧ p.2.length ≤ 4 ∧ ∀ m ∈ p.2, IsMap p.1 m)
theorem ok__law_turns (T : Tx K mg) : FnOk P w K mg base CX0 4 T.a__law_turns T.d__law_turns ["_law_well_here", "_law_most"] (sp__law_turns T) := by
  refine T.F__law_turns.ok sc__law_turns (fun vs H Q E h => SpLen.len h) (fun cdv A outer s H vs Q E hr h => ?_)
  obtain ⟨F, a, N, v, n, rfl, e, fa, s, r, ⟨n0, n1⟩, k⟩ := h
  cases (show v = _ from r)
  refine ⟨_, (by exact (pss_cons (ps_set (i := 2) sc__law_turns.nd rfl (Or.inr rfl) (pe_op op_add pe_int (pe_call (ok__law_draw T) (hr.mono (by decide)) rfl T.g__law_draw T.F__law_draw.kp T.b__law_draw .nil pass0 (pa_cons (pv 0) (pa_cons (pv 1) pa_nil)))))
      (pss_one (ps_ret (pe_tup (pa_cons (pv 2) (pa_cons (pe_lc (own := [("_law_k", 3)]) (g := gName 3) (tt := tYes) rfl sc__law_turns.nd (pi_range1 rfl T.z_range (pa_cons (pe_op op_add pe_int (pe_call (ok__law_draw T) (hr.mono (by decide)) rfl T.g__law_draw T.F__law_draw.kp T.b__law_draw .nil pass0 (pa_cons (pv 0) (pa_cons pe_int pa_nil)))) pa_nil)) (blkOk_by (own := [("_law_k", 3)]) (N := N__law_turns) (sc := defScope s__law_turns) (by decide +kernel)) (fun _ _ _ _ _ => (pg_name (i := 3) sc__law_turns.nd rfl (by first | exact Or.inl rfl | exact Or.inr rfl))) (fun _ _ _ _ _ => pts_nil) (fun _ _ _ _ _ => (pe_call (ok__law_map T) (hr.mono (by decide)) rfl T.g__law_map T.F__law_map.kp T.b__law_map .nil pass0 (pa_cons (pv 0) (pa_cons (pv 2) pa_nil))))) pa_nil))))))), ?_⟩
  have ri : ∀ F (i : Int), rInt F (.int i) i := fun F i => rfl
  have rn : ∀ F (i : Nat), rNat F (.int (i : Int)) i := fun F i => rfl
  walk_at "n"
  refine x_setS (es_add es_int (EvS.nat (es_callP rfl (fun F _ _ _ => ev_var rfl (rn F n)) ⟨by omega, by omega⟩))) e fa s (by omega) fun v1 w1 F1 H1 g1 fa1 s1 p1 r1 => ?_
  obtain ⟨_, _, rfl, ⟨d, rfl, hd⟩, rfl⟩ := p1
  obtain ⟨m, hm⟩ : ∃ m : Nat, (1 + (d : Int)) = (m : Int) := ⟨1 + d, by omega⟩
  rw [hm] at r1
  cases (show v1 = _ from r1)
  walk_at "n"
  refine x_retS (R := rPr rNat (rLst (rTup rNat))) (c := 161) (es_pr (P1 := fun x => x = m) (c1 := 0) (c2 := 161) (es_var rfl (rn _ m)) ((es_lcR (B := 4) (c1 := 1) (c2 := 40) (P1 := fun x => 1 ≤ x ∧ x ≤ 4) (P2 := fun _ x => IsMap m x) ((es_add es_int (EvS.nat (es_callP rfl (fun _ _ _ _ => ev_lit (n := 4)) ⟨by omega, by omega⟩))).mono (fun x hx => ?_) (by omega)) (by rintro x ⟨h1, h2⟩; omega) (by omega) (fun v => rfl) fun i hi F H g _ => es_callP rfl (fun F _ _ _ => ev_var rfl (rn F m)) ⟨by omega, by omega⟩).mono (fun _ h => h) (by omega))) g1.fh fa1 s1 (by omega) fun v2 w2 F2 H2 g2 fa2 s2 p2 r2 => ?_
  · obtain ⟨_, _, rfl, ⟨d, rfl, hd⟩, rfl⟩ := hx
    omega
  · obtain ⟨h1, _, ⟨h2, h3⟩, h4, h5⟩ := p2
    refine k v2 w2 F2 H2 (g1.trans g2) fa2 (s2.le (by omega)) ⟨by omega, by omega, by omega, by omega, fun x hx => ?_⟩ r2
    obtain ⟨i, hi⟩ := List.mem_iff_getElem?.mp hx
    rw [h1]
    exact h5 i x hi

abbrev sp__law_mixed (T : Tx K mg) : Sp := SpS1 50 (rLst (rTup rNat)) (fun ps => ps.length ≤ 50) (rLst (rTup rNat)) (fun ps qs => qs.Perm ps)
theorem ok__law_mixed (T : Tx K mg) : FnOk P w K mg base CX0 2 T.a__law_mixed T.d__law_mixed ["_law_well_here", "_law_some"] (sp__law_mixed T) := by
  refine T.F__law_mixed.ok sc__law_mixed (fun vs H Q E h => SpLen.len h) (fun cdv A outer s H vs Q E hr h => ?_)
  obtain ⟨F, a, N, v, ps, rfl, e, fa, s, r, hn, k⟩ := h
  have ri : ∀ F (i : Int), rInt F (.int i) i := fun F i => rfl
  refine ⟨_, (by exact (pss_cons (ps_set (i := 2) sc__law_mixed.nd rfl (Or.inr rfl) (pe_callTy (r := rListS K) call_list_of (by rfl) T.z_list (by decide +kernel) (pa_cons (pv 1) pa_nil)))
      (pss_one (ps_ret (pe_lc (own := [("_law_k", 3)]) (g := gName 3) (tt := tYes) rfl sc__law_mixed.nd (pi_range1 rfl T.z_range (pa_cons (pe_callB (r := rLenS K) call_len_seq (by rfl) T.z_len PySem.boot_len (pa_cons (pv 1) pa_nil)) pa_nil)) (blkOk_by (own := [("_law_k", 3)]) (N := N__law_mixed) (sc := defScope s__law_mixed) (by decide +kernel)) (fun _ _ _ _ _ => (pg_name (i := 3) sc__law_mixed.nd rfl (by first | exact Or.inl rfl | exact Or.inr rfl))) (fun _ _ _ _ _ => pts_nil) (fun _ _ _ _ _ => (kbm K PySem.F.plainAttrs_list PySem.F.slot_list_pop PySem.F.type_list_pop mt_popAt (pv 2) (pa_cons (pe_call (ok__law_draw T) (hr.mono (by decide)) rfl T.g__law_draw T.F__law_draw.kp T.b__law_draw .nil pass0 (pa_cons (pv 0) (pa_cons (pe_callB (r := rLenS K) call_len_seq (by rfl) T.z_len PySem.boot_len (pa_cons (pv 2) pa_nil)) pa_nil))) pa_nil)))))))), ?_⟩
  walk_at "n"
  refine x_listM (R := rTup rNat) e (ev_var rfl r) fun vs l F1 H1 g1 p1 hl => ?_
  obtain ⟨o0, ho0⟩ := s.someO
  have s1 := s.gr g1
  have fa1 := g1.nn ho0 fa
  have hne : l ≠ a := fun z => by subst z; exact s1.hn hl
  have hl0 : H l = none := Gr.free g1 hl
  have fl1 : F1 l = none := g1.fh.free hl
  have G1 : Gr (El.M1 a) F H F1 (upd H1 l (.lst vs)) := g1.up.trans (.loc g1.fh hl)
  have s1' := s1.ex (H' := upd H1 l (.lst vs)) (upd_ne hne.symm)
  walk_at "n"
  refine ev_lenL (ev_var rfl (Mn.mono g1.ff r)) F1 _ (.refl G1.fh) _ fun v2 F2 H2 g2 ea => ⟨(ps.length : Int), by rw [show v2 = _ from ea], by omega, by omega, fun B hB => ?_⟩
  rw [Int.toNat_natCast]
  have G2 := G1.trans g2.up
  obtain ⟨o1, ho1⟩ := s1'.someO
  have s2 := s1'.gr g2
  have fa2 := g2.nn ho1 fa1
  have hBa : B ≠ a := fun z => by subst z; exact s2.hn hB
  have hL2 := g2.hx _ _ (upd_same (H := H1) (a := l) (o := .lst vs))
  have fl2 := g2.nn upd_same fl1
  have hBl : B ≠ l := fun z => by subst z; rw [hL2] at hB; cases hB
  have hB0 : H B = none := by
    cases q : H B with
    | none => rfl
    | some o => exact absurd hB (G2.dm B (by rw [q]; exact fun z => nomatch z))
  refine lc_range (lo := 0) (n := ps.length) (fun i H' => ∃ F' us qs ws rest, Gr (El.M1 a) F H F' H' ∧ F' a = none ∧ Src H' a (N + (50 - i)) ∧ (F' l = none ∧ H' l = some (.lst ws) ∧ Paired (rTup rNat F') ws rest) ∧ (F' B = none ∧ H' B = some (.lst us) ∧ Paired (rTup rNat F') us qs) ∧ qs.length = i ∧ rest.length = ps.length - i ∧ (qs ++ rest).Perm ps)
    ⟨F2, [], [], vs, ps, G2.trans (.loc g2.fh hB), fa2, s2.ex (upd_ne hBa.symm), ⟨fl2, by rw [upd_ne hBl.symm]; exact hL2, Paired.up g2.ff p1⟩, ⟨g2.fh.free hB, upd_same, .nil⟩, rfl, rfl, .refl _⟩ ?_ ?_
  · rintro i H' hi ⟨F', us, qs, ws, rest, g, fa', s', ⟨fl, hL, pl⟩, ⟨fB, hB', pB⟩, hq, hr2, hp⟩
    have e0 : (0 : Int) + (i : Int) = (i : Int) := Int.zero_add _
    rw [e0]
    refine ⟨rfl, ?_⟩
    have hwl : ws.length = rest.length := pl.length
    refine ⟨.ref l, rfl, .inl ⟨rfl, ws, SqL.of hL⟩, ?_⟩
    refine (es_callP (x := rest.length) rfl (fun F5 H5 g5 _ => Ev.toNat (Ev.is (ev_lenM (ev_var rfl (show rRef _ _ l from rfl)) (g5.hh _ _ hne hL)) (by rw [hwl]))) ⟨by omega, by omega⟩) F' H' (N + (50 - (i + 1))) (.refl g.fh) fa' (s'.le (by omega)) _ fun v3 d F3 H3 g3 fa3 s3 hd r3 => ?_
    cases (show v3 = _ from r3)
    have hd : d < rest.length := hd
    have hL3 := g3.hh _ _ hne hL
    have fl3 := g3.nw l hne (by rw [hL]; exact fun z => nomatch z) fl
    have hB3 := g3.hh _ _ hBa hB'
    have fB3 := g3.nw B hBa (by rw [hB']; exact fun z => nomatch z) fB
    obtain ⟨x, hx⟩ : ∃ x, rest[d]? = some x := ⟨_, List.getElem?_eq_getElem hd⟩
    obtain ⟨y, hy, ry⟩ := Paired.get pl hx
    refine ⟨l, ws, (d : Int), d, y, rfl, rfl, hL3, by omega, by omega, seqIx (by omega), hy, us, by rw [upd_ne hBl]; exact hB3, by rw [pB.length, hq, sizeLine_eq]; omega, ?_⟩
    have Ga := (g.trans g3).set' (o := .lst (ws.eraseIdx d)) fl3 (.inl hl0)
    have Gb := Ga.set' (o := .lst (us ++ [y])) fB3 (.inl hB0)
    refine ⟨F3, us ++ [y], qs ++ [x], ws.eraseIdx d, rest.eraseIdx d, Gb, fa3, (s3.ex (upd_ne hne.symm)).ex (upd_ne hBa.symm), ⟨fl3, by rw [upd_ne hBl.symm, upd_same], Paired.erase d (Paired.up g3.ff pl)⟩, ⟨fB3, upd_same, (Paired.up g3.ff pB).snoc (Mn.mono g3.ff ry)⟩, by rw [List.length_append, hq]; rfl, by rw [List.length_eraseIdx, if_pos hd]; omega, ?_⟩
    rw [List.append_assoc]
    exact (List.Perm.append_left qs (erase_perm hx)).trans hp
  · rintro H' ⟨F', us, qs, ws, rest, g, fa', s', ⟨fl, hL, pl⟩, ⟨fB, hB', pB⟩, hq, hr2, hp⟩
    have hrest : rest = [] := List.eq_nil_of_length_eq_zero (by omega)
    rw [hrest, List.append_nil] at hp
    have gf := g.frz hB' (Ex.free g.ff fB) (.inl hB0)
    exact k _ qs _ _ gf (by rw [upd_ne hBa.symm]; exact fa') (s'.le (by omega)) hp ⟨B, us, rfl, upd_same, Paired.up (Ex.new fB) pB⟩

abbrev sp__law_told (T : Tx K mg) : Sp := Sp2 (rTurns T.C_Turns) rNat (fun t n => n ≤ 1000 ∧ t.many ≤ 4 ∧ ∃ M, 1 ≤ M ∧ t.maps.length ^ n ≤ M ∧ t.many ^ t.many * M ^ t.many < 2 ^ 4000) (rOpt (rLst (rShare T.C_Share))) oT
theorem ok__law_told (T : Tx K mg) : FnOk P w K mg base CX0 8 T.a__law_told T.d__law_told ["_law_turns_here", "_law_long"] (sp__law_told T) := by
  refine T.F__law_told.ok sc__law_told (fun vs H Q E h => SpLen.len h) (fun cdv A outer s H vs Q E hr h => ?_)
  obtain ⟨F, v, u, t, n, rfl, e, r, ru, ⟨hn, hm4, M, hM1, hM, hb⟩, k⟩ := h
  cases (show u = _ from ru)
  obtain ⟨xs, hx⟩ := maps_few hm4
  refine ⟨_, (by exact (pss_one (ps_try_mix (Wout := fun _ _ _ _ => False) rfl rfl sc__law_told.nd takes0 (fun W pn xe tk _ => (pss_one (ps_ret (pe_callS (ok_once_shares T) (hr.mono (by decide)) rfl T.g_once_shares T.F_once_shares.kp T.b_once_shares (fun σ => passAt tk σ) (pa_cons (pv 0) (pa_cons (pv 1) pa_nil)))))) (HdsM.bare ⟨rfl, by decide, Or.inl T.g_NeverMeets⟩ (fun a oe cls d pn hz hf => (pss_one (ps_ret pe_non))) HdsM.nil)))), ?_⟩
  walk_at "n"
  refine ⟨v, rfl, .int (n : Int), rfl, F, v, t, n, M, rfl, e, r, hn, hM1, hM, hb, fun ys hy hs w F' H' g rr => ?_, fun ys hy hs v' d F' H' g rr hd => ?_, fun hno => by rw [hx] at hno; cases hno⟩
  · refine k _ _ _ g ?_
    unfold oT
    rw [if_neg hs]
    exact rr
  · refine ⟨true, T.te_NeverMeets, fun _ a ha => ?_, fun q => Bool.noConfusion q⟩
    have g1 : Gr M0 F' H' F' (upd H' d (.xd [(("pair" : Str), v')])) := .loc g.fh hd
    refine k _ _ _ (g.trans g1) ?_
    unfold oT
    rw [if_pos hs]
    rfl
theorem log_bits {M : Nat} (hM : M ≤ 2048) {k : Nat} (hk : k ≤ 4) : k ^ k * M ^ k < 2 ^ 4000 := by
  have h1 : k ^ k ≤ 2 ^ 8 := by
    have : ∀ k, k ≤ 4 → k ^ k ≤ 2 ^ 8 := by decide
    exact this k hk
  have h2 : M ^ k ≤ (2 ^ 11) ^ 4 := Nat.le_trans (Nat.pow_le_pow_left (show M ≤ 2 ^ 11 by omega) k) (Nat.pow_le_pow_right (by decide) hk)
  have h3 : k ^ k * M ^ k ≤ 2 ^ 8 * (2 ^ 11) ^ 4 := Nat.mul_le_mul h1 h2
  have h4 : (2 : Nat) ^ 8 * (2 ^ 11) ^ 4 = 2 ^ 52 := by decide
  have h5 : (2 : Nat) ^ 52 < 2 ^ 4000 := Nat.pow_lt_pow_right (by decide) (by decide)
  omega
abbrev sp__law_idle_right (T : Tx K mg) : Sp := SpS3 100 (rTurns T.C_Turns) (rTurns T.C_Turns) rNat (fun t t' n => (∃ h, t' = idleT t h) ∧ 1 ≤ n ∧ n ≤ 5 ∧ t.maps.length ≤ 10) rBl (fun _ _ _ b => b = true)
theorem ok__law_idle_right (T : Tx K mg) : FnOk P w K mg base CX0 6 T.a__law_idle_right T.d__law_idle_right ["_law_well_here", "_law_turns_here", "_law_idle", "_law_long"] (sp__law_idle_right T) := by
  refine T.F__law_idle_right.ok sc__law_idle_right (fun vs H Q E h => SpLen.len h) (fun cdv A outer s H vs Q E hr h => ?_)
  obtain ⟨F, a, N, v, u, o, t, t', n, rfl, e, fa, s, r1, r2, r3, ⟨⟨hlen, rfl⟩, n1, n5, hl10⟩, k⟩ := h
  cases (show o = _ from r3)
  have ri : ∀ F (i : Int), rInt F (.int i) i := fun F i => rfl
  have rn : ∀ F (i : Nat), rNat F (.int (i : Int)) i := fun F i => rfl
  have t0 := t.h0
  have t2 := t.h2
  refine ⟨_, (by exact (pss_cons (ps_setLc (i := 4) (own := [("_law_k", 5)]) (g := gName 5) (tt := tYes) rfl sc__law_idle_right.nd rfl rfl (sw_true rfl rfl rfl (by decide +kernel)) (pi_range1 rfl T.z_range (pa_cons (pe_op op_mul pe_int (pv 3)) pa_nil)) (blkOk_by (own := [("_law_k", 5)]) (N := N__law_idle_right) (sc := defScope s__law_idle_right) (by decide +kernel)) (fun _ _ _ _ _ => (pg_name (i := 5) sc__law_idle_right.nd rfl (by first | exact Or.inl rfl | exact Or.inr rfl))) (fun _ _ _ _ _ => pts_nil) (fun _ _ _ _ _ => (pe_call (ok__law_draw T) (hr.mono (by decide)) rfl T.g__law_draw T.F__law_draw.kp T.b__law_draw .nil pass0 (pa_cons (pv 0) (pa_cons (pe_callB (call_lenOwn (ok_Turns_len T) (hr.mono (by decide)) T.m_Turns_len.at_ T.m_Turns_len.fn T.b_Turns_len pass0) (by rfl) T.z_len PySem.boot_len (pa_cons (pv 1) pa_nil)) pa_nil)))))
      (pss_cons (ps_set (i := 6) sc__law_idle_right.nd rfl (Or.inl rfl) (pe_lst pa_nil))
      (pss_cons (ps_for PassesOwn.never rfl (pi_range1 rfl T.z_range (pa_cons pe_int pa_nil)) (pg_name (i := 5) sc__law_idle_right.nd rfl (by first | exact Or.inl rfl | exact Or.inr rfl)) (pss_one (ps_set (i := 6) sc__law_idle_right.nd rfl (Or.inl rfl) (pe_op op_cat (pe_op op_cat (pv 6) (pe_op op_rep (pe_op op_rep (pe_lst (pa_cons (pe_callB (call_lenOwn (ok_Turns_len T) (hr.mono (by decide)) T.m_Turns_len.at_ T.m_Turns_len.fn T.b_Turns_len pass0) (by rfl) T.z_len PySem.boot_len (pa_cons (pv 1) pa_nil)) pa_nil)) (pv 3)) (pe_call (ok__law_draw T) (hr.mono (by decide)) rfl T.g__law_draw T.F__law_draw.kp T.b__law_draw .nil pass0 (pa_cons (pv 0) (pa_cons pe_int pa_nil))))) (pe_slice (r := rSlL K) sl_list (pv 4) (po_some (pe_op op_mul (pv 5) (pv 3))) (po_some (pe_op op_mul (pe_op op_add (pv 5) pe_int) (pv 3))))))))
      (pss_cons (ps_set (i := 7) sc__law_idle_right.nd rfl (Or.inl rfl) (pe_call (ok_read_once T) (hr.mono (by decide)) rfl T.g_read_once T.F_read_once.kp T.b_read_once .nil pass0 (pa_cons (pv 1) (pa_cons (pv 3) (pa_cons (pv 4) pa_nil)))))
      (pss_cons (ps_set (i := 8) sc__law_idle_right.nd rfl (Or.inl rfl) (pe_call (ok_read_once T) (hr.mono (by decide)) rfl T.g_read_once T.F_read_once.kp T.b_read_once .nil pass0 (pa_cons (pv 2) (pa_cons (pv 3) (pa_cons (pv 6) pa_nil)))))
      (pss_cons (ps_if (PW.pt (pw_or (pt_cmpR op_eq (kfld K (pv 1) rfl) pe_int (nomark _)) (pw_or1 (pt_cmpR op_isN1 (pv 7) pe_non (nomark _))))) (pss_one (ps_ret (pe_or (pe_cmpR op_eq (kfld K (pv 1) rfl) pe_int (nomark _)) (pe_one (pe_cmpR op_isN1 (pv 8) pe_non (nomark _)))))) pss_nil)
      (pss_one (ps_ret (pe_and (pe_cmpR op_notN1 (pv 8) pe_non (nomark _)) (pe_and (pe_cmpR op_eq (pe_ix (r := rIxT K) ix_tup (pv 8) pe_int (fun _ _ => rfl)) (pe_ix (r := rIxT K) ix_tup (pv 7) pe_int (fun _ _ => rfl)) (nomark _)) (pe_one (pe_cmpR op_ge (pe_ix (r := rIxT K) ix_tup (pv 8) pe_int (fun _ _ => rfl)) (pe_ix (r := rIxT K) ix_tup (pv 7) pe_int (fun _ _ => rfl)) (nomark _)))))))))))))), ?_⟩
  walk_at "n"
  refine x_setS (R := rLst rNat) (c := 40) ((es_lcRP (n := 8 * n) (B := 40) (c2 := 1) (P2 := fun _ x => x < t.maps.length) (fun F1 H1 _ _ => Ev.is (ev_mul ev_int (ev_var rfl (ri _ (n : Int))) (.inl ⟨by decide, by decide⟩)) (by omega)) (by omega) (by omega) (fun v => rfl) fun i hi F1 H1 g _ => es_callP (x := t.maps.length) rfl (fun F2 H2 g2 _ => (ev_lenOwn (ev_var rfl (Mn.mono (g.ff.trans g2.ff) r1)) (by omega)).toNat) ⟨by omega, by omega⟩).mono (fun _ h => h) (by omega)) e fa s (by omega) fun v4 w F1 H1 g1 fa1 s1 p1 r4 => ?_
  obtain ⟨hwl, hws⟩ := p1
  have hw : ∀ s ∈ w, s < t.maps.length := fun s hs => by
    obtain ⟨i, hi⟩ := List.mem_iff_getElem?.mp hs
    exact hws i s hi
  walk_at "n"
  refine x_set (R := rLst rNat) (x := []) g1.fh (ev_lst el_nil (by show 0 ≤ sizeLine; decide)) fun v6 F2 H2 g2 r6 => ?_
  obtain ⟨o1, ho1⟩ := s1.someO
  have fa2 := g2.nn ho1 fa1
  have s2 := s1.gr g2
  have G2 := g1.trans g2.up
  walk_at "n"
  refine x_forR (n := 8) g2.fh ev_int (by omega) (fun i σ' F' H' => Gr (El.M1 a) F H F' H' ∧ F' a = none ∧ Src H' a (N + 100 - 40 - i) ∧ Ex F2 F' ∧ ∃ y5 v6 ps, rLst rNat F' v6 (bldZ (List.replicate n t.maps.length) ps).flatten ∧ ps.map (·.2) = ((List.range i).map fun j => (w.drop (j * n)).take n) ∧ (bldZ (List.replicate n t.maps.length) ps).flatten.length ≤ i * (3 * n) ∧ σ' = [some (.ref a), some v, some u, some (.int (n : Int)), some v4, y5, some v6, none, none])
    (fun F3 H3 g3 => ⟨G2.trans g3.up, (by obtain ⟨o2, ho2⟩ := s2.someO; exact g3.nn ho2 fa2), s2.gr g3, g3.ff, _, v6, [], Mn.mono g3.ff r6, rfl, Nat.zero_le _, rfl⟩) ?_ ?_
  · rintro F3 e3 i σ' F' H' hi e4 e5 ⟨g, fa', s', ex2, y5, v6', ps, r6', hps, hpl, rfl⟩
    have hi8 : i * (3 * n) ≤ 7 * 15 := Nat.mul_le_mul (by omega) (by omega)
    have r1' := Mn.mono g.ff r1
    have r4' := Mn.mono (g2.ff.trans ex2) r4
    walk_at "n"
    refine x_setS (R := rLst rNat) (c := 1) ((es_cat (c1 := 1) (c2 := 0) (P1 := fun l => ∃ d : Nat, d ≤ 2 ∧ l = (bldZ (List.replicate n t.maps.length) ps).flatten ++ (List.replicate d (List.replicate n t.maps.length)).flatten) (P2 := fun l => l = (w.drop (i * n)).take n)
      ((es_cat (c1 := 0) (c2 := 1) (P1 := fun l => l = (bldZ (List.replicate n t.maps.length) ps).flatten) (P2 := fun l => ∃ d : Nat, d ≤ 2 ∧ l = (List.replicate d (List.replicate n t.maps.length)).flatten) (es_pure fun F4 H4 g4 _ => ev_var rfl (Mn.mono g4.ff r6'))
        ((es_repN (B := 2) (c1 := 0) (c2 := 1) (P1 := fun l => l = List.replicate n t.maps.length) (P2 := fun z => 0 ≤ z ∧ z ≤ 2) (es_pure fun F4 H4 g4 _ => Ev.is (ev_repN (n := n) (xs := [t.maps.length]) (ev_lst (el_cons (ev_lenOwn (ev_var rfl (Mn.mono g4.ff r1')) (by omega)).toNat el_nil) (by show 1 ≤ sizeLine; decide)) (ev_var rfl (ri _ (n : Int))) (by omega) (by show 1 * n ≤ _; omega)) (flat_one _ n)) ((EvS.nat (es_callP rfl (fun _ _ _ _ => ev_lit (n := 3)) ⟨by omega, by omega⟩)).mono (by rintro z ⟨m, rfl, h⟩; omega) (Nat.le_refl _)) (fun z h => h) (by omega) (fun l h => by rw [h, List.length_replicate]; omega)).mono (by rintro l ⟨xs, d, rfl, -, hd, rfl⟩; exact ⟨d, hd, rfl⟩) (Nat.le_refl _))
        (fun xs ys h1 h2 => by
          obtain ⟨d, hd, rfl⟩ := h2
          rw [h1, rep_len, List.length_replicate]
          have : d * n ≤ 2 * 5 := Nat.mul_le_mul hd n5
          omega)).mono (by rintro l ⟨xs, ys, rfl, ⟨d, hd, rfl⟩, rfl⟩; exact ⟨d, hd, rfl⟩) (Nat.le_refl _))
      (es_pure fun F4 H4 g4 _ => Ev.is (ev_slL (lo := some ((i * n : Nat) : Int)) (hi := some (((i + 1) * n : Nat) : Int)) (ev_var rfl (Mn.mono g4.ff r4')) (eo_some (Ev.is (ev_mul (ev_var rfl (ri _ (i : Int))) (ev_var rfl (ri _ (n : Int))) (.inl ⟨by omega, by omega⟩)) (by rw [Int.natCast_mul]))) (eo_some (Ev.is (ev_mul (ev_add (ev_var rfl (ri _ (i : Int))) ev_int) (ev_var rfl (ri _ (n : Int))) (.inl ⟨by omega, by omega⟩)) (by rw [Int.natCast_mul, Int.natCast_add]; rfl)))) (by rw [cut_mid (Nat.mul_le_mul_right _ (Nat.le_succ i)), Nat.succ_mul, Nat.add_sub_cancel_left]))
      (fun xs ys h1 h2 => by
        obtain ⟨d, hd, rfl⟩ := h1
        rw [h2, List.length_append, rep_len, List.length_replicate, List.length_take]
        have : d * n ≤ 2 * 5 := Nat.mul_le_mul hd n5
        omega)).mono (fun _ h => h) (Nat.le_refl _)) g.fh fa' s' (by omega) fun v7 l F4 H4 g4 fa4 s4 p4 r7 => ?_
    obtain ⟨xs, ys, ⟨d, hd, rfl⟩, rfl, rfl⟩ := p4
    have eb : bldZ (List.replicate n t.maps.length) (ps ++ [(d, (w.drop (i * n)).take n)]) = bldZ (List.replicate n t.maps.length) ps ++ (List.replicate d (List.replicate n t.maps.length) ++ [(w.drop (i * n)).take n]) := by
      unfold bldZ
      rw [List.flatMap_append, List.flatMap_cons, List.flatMap_nil, List.append_nil]
    have ef : (bldZ (List.replicate n t.maps.length) (ps ++ [(d, (w.drop (i * n)).take n)])).flatten = (bldZ (List.replicate n t.maps.length) ps).flatten ++ (List.replicate d (List.replicate n t.maps.length)).flatten ++ (w.drop (i * n)).take n := by
      rw [eb, List.flatten_append, List.flatten_append, List.append_assoc]
      congr 2
      exact List.append_nil _
    refine ⟨F4, e4.trans g4.ff, g4.fh, g.trans g4, fa4, s4.le (by omega), ex2.trans g4.ff, _, v7, ps ++ [(d, (w.drop (i * n)).take n)], by rw [ef]; exact r7, ?_, ?_, rfl⟩
    · rw [List.map_append, hps, List.range_succ, List.map_append]
      rfl
    · rw [ef, List.length_append, List.length_append, rep_len, List.length_replicate, List.length_take, Nat.succ_mul]
      have : d * n ≤ 2 * n := Nat.mul_le_mul_right _ hd
      omega
  · rintro σ' F' H' e1 e2 ⟨g, fa', s', ex2, y5, v6', ps, r6', hps, hpl, rfl⟩
    have r1' := Mn.mono g.ff r1
    have r2' := Mn.mono g.ff r2
    have r4' := Mn.mono (g2.ff.trans ex2) r4
    have hlong : ∀ s ∈ (bldZ (List.replicate n t.maps.length) ps).flatten, s < (idleT t hlen).maps.length := fun s hs => by
      obtain ⟨c, hc, hsc⟩ := List.mem_flatten.mp hs
      show s < (t.maps ++ [idMap t.many]).length
      rw [List.length_append]
      rcases bld_mem hc with rfl | ⟨p, hp, rfl⟩
      · rw [(List.mem_replicate.mp hsc).2]; exact Nat.lt_succ_self _
      · have hm : p.2 ∈ ps.map (·.2) := List.mem_map.mpr ⟨p, hp, rfl⟩
        rw [hps] at hm
        obtain ⟨j, _, hj⟩ := List.mem_map.mp hm
        rw [← hj] at hsc
        exact Nat.lt_succ_of_lt (hw s (List.mem_of_mem_drop (List.mem_of_mem_take hsc)))
    walk_at "n"
    refine x_set (R := rOpt (rPr rNat rNat)) (x := readOnceM t n w) e2 (ev_call3 (ev_var rfl r1') (ev_var rfl (rn _ n)) (ev_var rfl r4') ⟨hw, by omega, n1, by omega⟩) fun v7 F5 H5 g5 r7 => ?_
    walk_at "n"
    refine x_set (R := rOpt (rPr rNat rNat)) (x := readOnceM (idleT t hlen) n (bldZ (List.replicate n t.maps.length) ps).flatten) g5.fh (ev_call3 (ev_var rfl (Mn.mono g5.ff r2')) (ev_var rfl (rn _ n)) (ev_var rfl (Mn.mono g5.ff r6')) ⟨hlong, by omega, n1, by omega⟩) fun v8 F6 H6 g6 r8 => ?_
    have r76 := Mn.mono g6.ff r7
    obtain ⟨oo, hoo⟩ := s'.someO
    have gA := g5.trans g6
    have r1a := Mn.mono gA.ff r1'
    have fin : ∀ v F7 H7, Gr M0 F6 H6 F7 H7 → rBl F7 v true → Q v H7 := fun v F7 H7 g7 r => by
      have G := gA.trans g7
      exact k v true F7 H7 (g.trans G.up) (G.nn hoo fa') ((s'.gr G).le (by omega)) rfl r
    by_cases hm1 : t.many = 1
    · walk_at "n"
      refine x_if (b := true) g6.fh (EvT.is (et_or (b := true) (EvT.is (et_test (ev_eqI (ev_fld (ev_var rfl r1a)).nat ev_int)) (decide_eq_true (by omega))) fun z => nomatch z) rfl) (fun _ F7 H7 g7 => ?_) (fun z => nomatch z)
      walk_at "n"
      exact x_ret g7.fh (Ev.is (x' := true) (ev_orV (a := true) (b := true) (Ev.is (ev_eqI (ev_fld (ev_var rfl (Mn.mono g7.ff r1a))).nat ev_int) (decide_eq_true (by omega))) fun z => nomatch z) rfl) fun v F8 H8 g8 r => fin v F8 H8 (g7.trans g8) r
    · have law := idle_law (h := hlen) n1 (by omega) hw (n := 8) (by rw [hwl]) hps
      have hq : ∀ F, rInt F (.int (t.many : Int)) (t.many : Int) := fun F => rfl
      cases hro : readOnceM t n w with
      | none =>
        rw [hro] at law r76
        have ho : readOnceM (idleT t hlen) n (bldZ (List.replicate n t.maps.length) ps).flatten = none := by
          cases q : readOnceM (idleT t hlen) n (bldZ (List.replicate n t.maps.length) ps).flatten with
          | none => rfl
          | some z => rw [q] at law; exact law.elim
        rw [ho] at r8
        walk_at "n"
        refine x_if (b := true) g6.fh (EvT.is (et_or (et_test (ev_eqI (ev_fld (ev_var rfl r1a)).nat ev_int)) fun _ => et_test (ev_isN (ev_var rfl r76))) (by show (_ || true) = true; simp)) (fun _ F7 H7 g7 => ?_) (fun z => nomatch z)
        walk_at "n"
        exact x_ret g7.fh (Ev.is (x' := true) (ev_orV (ev_eqI (ev_fld (ev_var rfl (Mn.mono g7.ff r1a))).nat ev_int) fun _ => ev_isN (ev_var rfl (Mn.mono g7.ff r8))) (by show (_ || true) = true; simp)) fun v F8 H8 g8 r => fin v F8 H8 (g7.trans g8) r
      | some p =>
        rw [hro] at law r76
        obtain ⟨q, ho, hq1, hq2⟩ : ∃ q, readOnceM (idleT t hlen) n (bldZ (List.replicate n t.maps.length) ps).flatten = some q ∧ q.1 = p.1 ∧ p.2 ≤ q.2 := by
          cases q : readOnceM (idleT t hlen) n (bldZ (List.replicate n t.maps.length) ps).flatten with
          | none => rw [q] at law; exact law.elim
          | some z => rw [q] at law; exact ⟨z, rfl, law.1, law.2⟩
        rw [ho] at r8
        walk_at "n"
        refine x_if (b := false) g6.fh (EvT.is (et_or (et_test (ev_eqI (ev_fld (ev_var rfl r1a)).nat ev_int)) fun _ => et_test (ev_isN (ev_var rfl r76))) (by rw [decide_eq_false (by omega)]; rfl)) (fun z => nomatch z) fun _ F7 H7 g7 => ?_
        have rp : rPr rNat rNat F7 v7 p := Mn.mono g7.ff (show rPr rNat rNat F6 v7 p from r76)
        have rq : rPr rNat rNat F7 v8 q := Mn.mono g7.ff (show rPr rNat rNat F6 v8 q from r8)
        walk_at "n"
        exact x_ret g7.fh (Ev.is (x' := true) (ev_andV (ev_notN (x := some q) (R := rPr rNat rNat) (ev_var rfl (show rOpt (rPr rNat rNat) F7 v8 (some q) from rq))) fun _ => ev_andV (ev_eqI (ev_fst (ev_var rfl rq)).nat (ev_fst (ev_var rfl rp)).nat) fun _ => ev_ge (ev_snd (ev_var rfl rq)).nat (ev_snd (ev_var rfl rp)).nat) (by rw [hq1, decide_eq_true rfl, decide_eq_true (by omega)]; rfl)) fun v F8 H8 g8 r => fin v F8 H8 (g7.trans g8) r

abbrev sp_law (T : Tx K mg) : Sp := spLawT K
theorem ok_law (T : Tx K mg) : FnOk P w K mg base CX0 9 T.a_law T.d_law ["_law_script"] (sp_law T) := by
  refine T.F_law.ok sc_law (fun vs H Q E h => SpLen.len h) (fun cdv A outer s H vs Q E hr h => ?_)
  obtain ⟨sa, ns, rfl, hS, hlen, hT, k⟩ := h
  refine ⟨_, (by exact (pss_cons (ps_for PassesOwn.never rfl (klist K (pe_op op_cat (pe_slice (r := rSlL K) sl_list (pv 0) po_none (po_some pe_int)) (pe_lst (pa_cons pe_int (pa_cons pe_int pa_nil))))) (pg_name (i := 1) sc_law.nd rfl (by first | exact Or.inl rfl | exact Or.inr rfl)) (pss_cons (ps_set (i := 2) sc_law.nd rfl (Or.inl rfl) (pe_call (ok__law_well T) (hr.mono (by decide)) rfl T.g__law_well T.F__law_well.kp T.b__law_well .nil pass0 (pa_cons (pv 1) pa_nil)))
      (pss_cons (ps_asg (pe_call (ok__law_turns T) (hr.mono (by decide)) rfl T.g__law_turns T.F__law_turns.kp T.b__law_turns .nil pass0 (pa_cons (pv 2) (pa_cons pe_int pa_nil))) (kptup K (n := 2) rfl (pgs_cons (pg_name (i := 3) sc_law.nd rfl (by first | exact Or.inl rfl | exact Or.inr rfl)) (pgs_cons (pg_name (i := 4) sc_law.nd rfl (by first | exact Or.inl rfl | exact Or.inr rfl)) pgs_nil))))
      (pss_cons (ps_set (i := 4) sc_law.nd rfl (Or.inl rfl) (pe_slice (r := rSlL K) sl_list (pv 4) po_none (po_some pe_int)))
      (pss_cons (ps_set (i := 5) sc_law.nd rfl (Or.inl rfl) (pe_op op_add pe_int (pe_call (ok__law_draw T) (hr.mono (by decide)) rfl T.g__law_draw T.F__law_draw.kp T.b__law_draw .nil pass0 (pa_cons (pv 2) (pa_cons pe_int pa_nil)))))
      (pss_cons (ps_set (i := 6) sc_law.nd rfl (Or.inl rfl) (pe_op op_add pe_int (pe_call (ok__law_draw T) (hr.mono (by decide)) rfl T.g__law_draw T.F__law_draw.kp T.b__law_draw .nil pass0 (pa_cons (pv 2) (pa_cons pe_int pa_nil)))))
      (pss_cons (ps_set (i := 7) sc_law.nd rfl (Or.inl rfl) (pe_make T.mk_Turns (ok_Turns_init T) (hr.mono (by decide)) rfl T.g_Turns T.b_Turns_init .nil pass0 (pa_cons (pv 3) (pa_cons (pv 4) pa_nil))))
      (pss_cons (ps_set (i := 8) sc_law.nd rfl (Or.inl rfl) (pe_make T.mk_Turns (ok_Turns_init T) (hr.mono (by decide)) rfl T.g_Turns T.b_Turns_init .nil pass0 (pa_cons (pv 3) (pa_cons (pe_call (ok__law_mixed T) (hr.mono (by decide)) rfl T.g__law_mixed T.F__law_mixed.kp T.b__law_mixed .nil pass0 (pa_cons (pv 2) (pa_cons (pe_op op_rep (pv 4) (pv 5)) pa_nil))) pa_nil))))
      (pss_cons (ps_set (i := 9) sc_law.nd rfl (Or.inl rfl) (pe_make T.mk_Turns (ok_Turns_init T) (hr.mono (by decide)) rfl T.g_Turns T.b_Turns_init .nil pass0 (pa_cons (pv 3) (pa_cons (pe_op op_cat (pv 4) (pe_lst (pa_cons (pe_tupRg rfl (by rfl) T.z_tuple (prg_1 (by rfl) T.z_range (pv 3))) pa_nil))) pa_nil))))
      (pss_cons (ps_set (i := 10) sc_law.nd rfl (Or.inr rfl) pe_int)
      (pss_cons (ps_for PassesOwn.never rfl (pi_range1 rfl T.z_range (pa_cons (pv 6) pa_nil)) (pg_name (i := 11) sc_law.nd rfl (by first | exact Or.inl rfl | exact Or.inr rfl)) (pss_one (ps_set (i := 10) sc_law.nd rfl (Or.inr rfl) (pe_op op_mul (pv 10) (pv 5)))))
      (pss_cons (ps_asg (pe_call (ok_blocks T) (hr.mono (by decide)) rfl T.g_blocks T.F_blocks.kp T.b_blocks .nil passL (pa_cons (pv 7) (pa_cons (pv 6) pa_nil))) (kptup K (n := 2) rfl (pgs_cons (pg_name (i := 12) sc_law.nd rfl (by first | exact Or.inl rfl | exact Or.inr rfl)) (pgs_cons (pg_name (i := 13) sc_law.nd rfl (by first | exact Or.inl rfl | exact Or.inr rfl)) pgs_nil))))
      (pss_cons (ps_set (i := 14) sc_law.nd rfl (Or.inl rfl) (pe_tup (pa_cons (pe_lc (own := [("_law_number", 15)]) (g := gName 15) (tt := tYes) rfl sc_law.nd (klist K (pv 12)) (blkOk_by (own := [("_law_number", 15)]) (N := N_law) (sc := defScope s_law) (by decide +kernel)) (fun _ _ _ _ _ => (pg_name (i := 15) sc_law.nd rfl (by first | exact Or.inl rfl | exact Or.inr rfl))) (fun _ _ _ _ _ => pts_nil) (fun _ _ _ _ _ => (pe_op op_mul (pv 15) (pv 10)))) (pa_cons (pe_lc (own := [("_law_row", 16)]) (g := gName 16) (tt := tYes) rfl sc_law.nd (klist K (pv 13)) (blkOk_by (own := [("_law_row", 16)]) (N := N_law) (sc := defScope s_law) (by decide +kernel)) (fun _ _ _ _ _ => (pg_name (i := 16) sc_law.nd rfl (by first | exact Or.inl rfl | exact Or.inr rfl))) (fun _ _ _ _ _ => pts_nil) (fun _ _ _ _ _ => (pe_lc (own := [("_law_number", 15)]) (g := gName 15) (tt := tYes) rfl sc_law.nd (klist K (pv 16)) (blk_in (blkOk_by (own := [("_law_number", 15)]) (N := N_law) (by decide +kernel))) (fun _ _ _ _ _ => (pg_name (i := 15) sc_law.nd rfl (by first | exact Or.inl rfl | exact Or.inr rfl))) (fun _ _ _ _ _ => pts_nil) (fun _ _ _ _ _ => (pe_op op_mul (pv 15) (pv 10)))))) pa_nil))))
      (pss_cons (ps_if (PW.pt (pw_or (pt_cmpR (r := rNeD K) (op_neD hr.units) (pe_call (ok_blocks T) (hr.mono (by decide)) rfl T.g_blocks T.F_blocks.kp T.b_blocks .nil passL (pa_cons (pv 8) (pa_cons (pv 6) pa_nil))) (pv 14) (nomark _)) (pw_or1 (pt_cmpR (r := rNeO K (DIns T.C_Share (RShr T.C_Share))) (op_neO mon_shr (eqG_ins (n := _) (ok_Share_eq T) T.m_Share_eq.at_ T.m_Share_eq.fn T.b_Share_eq pass0) (hr.mono (by decide)) hr.units) (pe_call (ok__law_told T) (hr.mono (by decide)) rfl T.g__law_told T.F__law_told.kp T.b__law_told .nil pass0 (pa_cons (pv 8) (pa_cons (pv 6) pa_nil))) (pe_call (ok__law_told T) (hr.mono (by decide)) rfl T.g__law_told T.F__law_told.kp T.b__law_told .nil pass0 (pa_cons (pv 7) (pa_cons (pv 6) pa_nil))) (nomark _))))) (pss_one (ps_ret pe_bl)) pss_nil)
      (pss_cons (ps_if (PW.pt (pw_and (pt_cmpR op_notN1 (pe_call (ok__law_told T) (hr.mono (by decide)) rfl T.g__law_told T.F__law_told.kp T.b__law_told .nil pass0 (pa_cons (pv 7) (pa_cons (pv 6) pa_nil))) pe_non (nomark _)) (pw_and1 (pt_cmpR (r := rNeO K (DIns T.C_Share (RShr T.C_Share))) (op_neO mon_shr (eqG_ins (n := _) (ok_Share_eq T) T.m_Share_eq.at_ T.m_Share_eq.fn T.b_Share_eq pass0) (hr.mono (by decide)) hr.units) (pe_call (ok__law_told T) (hr.mono (by decide)) rfl T.g__law_told T.F__law_told.kp T.b__law_told .nil pass0 (pa_cons (pv 9) (pa_cons (pv 6) pa_nil))) (pe_call (ok__law_told T) (hr.mono (by decide)) rfl T.g__law_told T.F__law_told.kp T.b__law_told .nil pass0 (pa_cons (pv 7) (pa_cons (pv 6) pa_nil))) (nomark _))))) (pss_one (ps_ret pe_bl)) pss_nil)
      (pss_one (ps_if (pt_not (pt_val (pe_call (ok__law_idle_right T) (hr.mono (by decide)) rfl T.g__law_idle_right T.F__law_idle_right.kp T.b__law_idle_right .nil pass0 (pa_cons (pv 2) (pa_cons (pv 7) (pa_cons (pv 9) (pa_cons (pv 6) pa_nil))))))) (pss_one (ps_ret pe_bl)) pss_nil)))))))))))))))))
      (pss_one (ps_ret pe_bl)))), ?_⟩
  have e : ExT (lawF H) H := lawF_ext hT
  have ri : ∀ F (i : Int), rInt F (.int i) i := fun F i => rfl
  have rn : ∀ F (i : Nat), rNat F (.int (i : Int)) i := fun F i => rfl
  walk_at "n"
  refine x_forL (F := lawF H) (xs := ns.take 6 ++ [0, 1]) e (ev_cat (ev_script (n := 6) (ev_var rfl rfl) hS) (ev_lst (el_cons ev_int (el_cons ev_int el_nil)) (by show 2 ≤ sizeLine; decide)) ?_)
    (fun i σ' F' H' => ∃ y1 y2 y3 y4 y5 y6 y7 y8 y9 y10 y11 y12 y13 y14 y15 y16, σ' = [some (.ref sa), y1, y2, y3, y4, y5, y6, y7, y8, y9, y10, y11, y12, y13, y14, y15, y16]) (fun F1 H1 g => ⟨_, _, _, _, _, _, _, _, _, _, _, _, _, _, _, _, rfl⟩) ?_ ?_
  · rw [List.length_take, sizeLine_eq]
    show min 6 ns.length + 2 ≤ _
    omega
  · rintro F1 e1 i c u σ' F' H' hx e2 e3 r ⟨y1, y2, y3, y4, y5, y6, y7, y8, y9, y10, y11, y12, y13, y14, y15, y16, rfl⟩
    cases (show u = _ from r)
    walk_at "n"
    -- the source
    refine ⟨.int c, rfl, F', c, rfl, e3, fun b H2 g2 hb fb s2 => ?_⟩
    have fb2 : F' b = none := fb
    walk_at "n"
    -- the turns
    refine x_pairS (es_callP rfl (fun _ _ _ _ => ev_lit (n := 4)) ⟨by omega, by omega⟩) g2.fh fb2 s2 (by omega) fun v1 v2 p F3 H3 g3 fb3 s3 hp r1 r2 => ?_
    obtain ⟨many, maps0⟩ := p
    obtain ⟨p1, p2, p3, p4, p5⟩ := hp
    have p1 : 1 ≤ many := p1
    have p2 : many ≤ 4 := p2
    have p3 : 1 ≤ maps0.length := p3
    have p5 : ∀ m ∈ maps0, IsMap many m := p5
    cases (show v1 = _ from r1)
    have r2 : rLst (rTup rNat) F3 v2 maps0 := r2
    walk_at "n"
    obtain ⟨maps, hmaps⟩ : ∃ maps, maps = maps0.take 3 := ⟨_, rfl⟩
    have q1 : 1 ≤ maps.length := by rw [hmaps, List.length_take]; omega
    have q2 : maps.length ≤ 3 := by rw [hmaps, List.length_take]; omega
    have q3 : ∀ m ∈ maps, IsMap many m := fun m hm => p5 m (List.mem_of_mem_take (by rw [← hmaps]; exact hm))
    refine x_set (R := rLst (rTup rNat)) (x := maps) g3.fh (Ev.is (ev_slL (lo := none) (hi := some ((3 : Nat) : Int)) (ev_var rfl r2) eo_none (eo_some ev_int)) (by rw [cut_to, hmaps])) fun v4 F4 H4 g4 r4 => ?_
    obtain ⟨o3, ho3⟩ := s3.someO
    have fb4 := g4.nn ho3 fb3
    have s4 := s3.gr g4
    walk_at "n"
    refine x_setS (es_add es_int (EvS.nat (es_callP rfl (fun _ _ _ _ => ev_lit (n := 2)) ⟨by omega, by omega⟩))) g4.fh fb4 s4 (by omega) fun v5 w5 F5 H5 g5 fb5 s5 q5 r5 => ?_
    obtain ⟨_, _, rfl, ⟨d5, rfl, hd5⟩, rfl⟩ := q5
    obtain ⟨often, hof⟩ : ∃ n : Nat, (2 + (d5 : Int)) = (n : Int) := ⟨2 + d5, by omega⟩
    rw [hof] at r5
    cases (show v5 = _ from r5)
    have of1 : 2 ≤ often := by omega
    have of2 : often ≤ 3 := by omega
    walk_at "n"
    refine x_setS (es_add es_int (EvS.nat (es_callP rfl (fun _ _ _ _ => ev_lit (n := 5)) ⟨by omega, by omega⟩))) g5.fh fb5 s5 (by omega) fun v6 w6 F6 H6 g6 fb6 s6 q6 r6 => ?_
    obtain ⟨_, _, rfl, ⟨d6, rfl, hd6⟩, rfl⟩ := q6
    obtain ⟨n, hn⟩ : ∃ n : Nat, (1 + (d6 : Int)) = (n : Int) := ⟨1 + d6, by omega⟩
    rw [hn] at r6
    cases (show v6 = _ from r6)
    have n1 : 1 ≤ n := by omega
    have n5 : n ≤ 5 := by omega
    have g46 := g5.ff.trans g6.ff
    have r46 : rLst (rTup rNat) F6 v4 maps := Mn.mono g46 r4
    let t : Tn := ⟨many, maps, p1, by omega, q1, by omega, q3⟩
    have htl : t.maps.length ≤ 100 := by show maps.length ≤ 100; omega
    walk_at "n"
    refine x_set (R := rTurns T.C_Turns) (x := t) g6.fh (ev_Turns (T := t) (ev_var rfl (ri _ (many : Int))) (ev_var rfl r46)) fun v7 F7 H7 g7 r7 => ?_
    obtain ⟨o6, ho6⟩ := s6.someO
    have fb7 := g7.nn ho6 fb6
    have s7 := s6.gr g7
    have r47 := Mn.mono g7.ff r46
    have hrl : (List.replicate often maps).flatten.length ≤ 9 := by
      rw [rep_len]
      exact Nat.mul_le_mul of2 q2
    walk_at "n"
    refine x_setS (R := rTurns T.C_Turns) (c := 50) ((es_Turns (n := many) (P := fun ms => ms.Perm (List.replicate often maps).flatten) (fun F H _ _ => ev_var rfl (ri _ (many : Int))) (es_callP (x := (List.replicate often maps).flatten) rfl (fun F8 H8 g8 _ => ev_repN (ev_var rfl (Mn.mono g8.ff r47)) (ev_var rfl (ri _ (often : Int))) (by omega) (by have : maps.length * often ≤ 3 * 3 := Nat.mul_le_mul q2 of2; omega)) (by omega)) fun ms hms => ⟨⟨many, ms, p1, by omega, by
        rw [hms.length_eq, rep_len]
        exact Nat.mul_pos (by omega) q1, by rw [hms.length_eq]; omega, fun m hm => by
        have := hms.mem_iff.mp hm
        obtain ⟨l, hl, hml⟩ := List.mem_flatten.mp this
        rw [(List.mem_replicate.mp hl).2] at hml
        exact q3 m hml⟩, rfl, rfl⟩).mono (fun _ h => h) (Nat.le_refl _)) g7.fh fb7 s7 (by omega) fun v8 t' F8 H8 g8 fb8 s8 q8 r8 => ?_
    obtain ⟨hm', hp'⟩ := q8
    have hm' : t'.many = t.many := hm'
    have hp' : t'.maps.Perm (List.replicate often t.maps).flatten := hp'
    have r48 := Mn.mono g8.ff r47
    walk_at "n"
    refine x_set (R := rTurns T.C_Turns) (x := idleT t htl) g8.fh (ev_Turns (T := idleT t htl) (ev_var rfl (ri _ (many : Int))) (ev_cat (xs := maps) (ys := [idMap many]) (ev_var rfl r48) (ev_lst (el_cons (ev_tupRg (ev_var rfl (ri _ (many : Int))) (by omega)) el_nil) (by show 1 ≤ sizeLine; decide)) (by rw [sizeLine_eq]; show maps.length + 1 ≤ _; omega))) fun v9 F9 H9 g9 r9 => ?_
    obtain ⟨o8, ho8⟩ := s8.someO
    have fb9 := g9.nn ho8 fb8
    have s9 := s8.gr g9
    have r79 := Mn.mono (g8.ff.trans g9.ff) r7
    have r89 := Mn.mono g9.ff r8
    walk_at "n"
    refine x_set (R := rInt) (x := 1) g9.fh ev_int fun v10 F10 H10 g10 r10 => ?_
    cases (show v10 = _ from r10)
    walk_at "n"
    refine x_forR (n := n) g10.fh (ev_var rfl (ri _ (n : Int))) (by omega) (fun i σ' F' H' => Gr M0 F9 H9 F' H' ∧ ∃ y11, σ' = [some (.ref sa), some (.int c), some (.ref b), some (.int (many : Int)), some v4, some (.int (often : Int)), some (.int (n : Int)), some v7, some v8, some v9, some (.int ((often ^ i : Nat) : Int)), y11, y12, y13, y14, y15, y16])
      (fun F11 H11 g11 => ⟨g10.trans g11, _, rfl⟩) ?_ ?_
    · rintro F11 e11 i σ' F' H' hi e12 e13 ⟨g, y11, rfl⟩
      walk_at "n"
      refine x_set (R := rInt) (x := ((often ^ (i + 1) : Nat) : Int)) e13 (Ev.is (ev_mul (ev_var rfl (ri _ ((often ^ i : Nat) : Int))) (ev_var rfl (ri _ (often : Int))) (.inr ⟨by omega, by omega⟩)) (by rw [Nat.pow_succ, Int.natCast_mul])) fun v F14 H14 g14 r14 => ?_
      cases (show v = _ from r14)
      exact ⟨F14, e12.trans g14.ff, g14.fh, g.trans g14, _, rfl⟩
    rintro σ' F11 H11 e11 e12 ⟨g11, y11, rfl⟩
    obtain ⟨o9, ho9⟩ := s9.someO
    have fb11 := g11.nn ho9 fb9
    have s11 := s9.gr g11
    have r7b := Mn.mono g11.ff r79
    have r8b := Mn.mono g11.ff r89
    have r9b := Mn.mono g11.ff r9
    obtain ⟨xs, hxs⟩ := maps_few (t := t) p2
    obtain ⟨xs', hxs'⟩ := maps_few (t := t') (by rw [hm']; exact p2)
    obtain ⟨mb1, mb2⟩ := more_blocks (n := n) hm' hp'
    have hby : often ^ n ≤ 3 ^ 5 := Nat.le_trans (Nat.pow_le_pow_left of2 n) (Nat.pow_le_pow_right (by decide) n5)
    have hby2 : (3 : Nat) ^ 5 = 243 := rfl
    have hMt : t.maps.length ^ n ≤ 2048 := Nat.le_trans (Nat.le_trans (Nat.pow_le_pow_left q2 n) (Nat.pow_le_pow_right (by decide) n5)) (by decide)
    have hbt := log_bits (Nat.le_refl 2048) (k := t.many) p2
    walk_at "n"
    refine x_pair (R := rLst rNat) (S := rLst (rLst rNat)) (p := (mtT t n, ldT t n)) e12 (ev_callT2 (x := t) (y := n) (ev_var rfl r7b) (ev_var rfl (rn _ n)) (by omega) (blocksM_some hxs)) fun v12 v13 F12 H12 g12 r12 r13 => ?_
    have r12 : rLst rNat F12 v12 (mtT t n) := r12
    have r13 : rLst (rLst rNat) F12 v13 (ldT t n) := r13
    have hml : (mtT t n).length = t.many := by unfold mtT metL; rw [List.length_map, List.length_range]
    have hll : (ldT t n).length = t.many := by unfold ldT ledL; rw [List.length_map, List.length_range]
    have hlr : ∀ r ∈ ldT t n, r.length = t.many := fun r hr => by
      unfold ldT ledL at hr
      obtain ⟨j, _, rfl⟩ := List.mem_map.mp hr
      unfold ledR
      rw [List.length_map, List.length_range]
    have p2t : t.many ≤ 4 := p2
    walk_at "n"
    refine x_set (R := rPr (rLst rNat) (rLst (rLst rNat))) (x := ((mtT t n).map (fun x => x * often ^ n), (ldT t n).map fun r => r.map fun x => x * often ^ n)) g12.fh (ev_pr (R := rLst rNat) (S := rLst (rLst rNat))
      (ev_lcm (R := rNat) (S := rNat) (fun x => x * often ^ n) (ev_var rfl r12) (by omega) (fun v => rfl) fun i x v F13 H13 hx g13 r => by
        cases (show v = _ from r)
        exact Ev.toNat (Ev.is (ev_mul (ev_var rfl (ri _ (x : Int))) (ev_var rfl (ri _ ((often ^ n : Nat) : Int))) (.inr ⟨by omega, by omega⟩)) (Int.natCast_mul _ _).symm))
      (ev_lcm (R := rLst rNat) (S := rLst rNat) (fun r => r.map fun x => x * often ^ n) (ev_var rfl r13) (by omega) (fun v => rfl) fun i x v F13 H13 hx g13 r => ev_lcm (R := rNat) (S := rNat) (fun x => x * often ^ n) (ev_var rfl r) (by rw [hlr x (mem_of_at hx)]; omega) (fun v => rfl) fun j y v' F14 H14 hy g14 r' => by
        cases (show v' = _ from r')
        exact Ev.toNat (Ev.is (ev_mul (ev_var rfl (ri _ (y : Int))) (ev_var rfl (ri _ ((often ^ n : Nat) : Int))) (.inr ⟨by omega, by omega⟩)) (Int.natCast_mul _ _).symm))) fun v14 F13 H13 g13 r14 => ?_
    have g1113 := g12.trans g13
    have r7c := Mn.mono g1113.ff r7b
    have r8c := Mn.mono g1113.ff r8b
    have r9c := Mn.mono g1113.ff r9b
    have pre : n ≤ 1000 ∧ t.many ≤ 4 ∧ ∃ M, 1 ≤ M ∧ t.maps.length ^ n ≤ M ∧ t.many ^ t.many * M ^ t.many < 2 ^ 4000 := ⟨by omega, p2, 2048, by decide, hMt, hbt⟩
    have hM' : t'.maps.length ^ n ≤ 59049 := by
      have : t'.maps.length ≤ 9 := by rw [hp'.length_eq]; exact hrl
      exact Nat.le_trans (Nat.le_trans (Nat.pow_le_pow_left this n) (Nat.pow_le_pow_right (by decide) n5)) (by decide)
    have hb' : ∀ k, k ≤ 4 → k ^ k * 59049 ^ k < 2 ^ 4000 := fun k hk => by
      have h1 : k ^ k * 59049 ^ k ≤ 2 ^ 80 := by
        have : ∀ k, k ≤ 4 → k ^ k * 59049 ^ k ≤ 2 ^ 80 := by decide
        exact this k hk
      have h5 : (2 : Nat) ^ 80 < 2 ^ 4000 := Nat.pow_lt_pow_right (by decide) (by decide)
      omega
    have pre' : n ≤ 1000 ∧ t'.many ≤ 4 ∧ ∃ M, 1 ≤ M ∧ t'.maps.length ^ n ≤ M ∧ t'.many ^ t'.many * M ^ t'.many < 2 ^ 4000 := ⟨by omega, by rw [hm']; exact p2, 59049, by decide, hM', hb' _ (by rw [hm']; exact p2)⟩
    have hlI : (idleT t htl).maps.length = maps.length + 1 := by show (maps ++ [idMap many]).length = _; rw [List.length_append]; rfl
    have preI : n ≤ 1000 ∧ (idleT t htl).many ≤ 4 ∧ ∃ M, 1 ≤ M ∧ (idleT t htl).maps.length ^ n ≤ M ∧ (idleT t htl).many ^ (idleT t htl).many * M ^ (idleT t htl).many < 2 ^ 4000 := ⟨by omega, p2, 2048, by decide, by
      rw [hlI]
      exact Nat.le_trans (Nat.le_trans (Nat.pow_le_pow_left (show maps.length + 1 ≤ 4 by omega) n) (Nat.pow_le_pow_right (by decide) n5)) (by decide), hbt⟩
    have om : oT t' n = oT t n := once_more hm' hp' (by omega) (by decide) hMt hbt
    walk_at "n"
    refine x_if (b := false) g13.fh (EvT.is (et_or (b := false) (EvT.is (et_test (ev_neD (R := rPr (rLst rNat) (rLst (rLst rNat))) (x := (mtT t' n, ldT t' n)) (y := ((mtT t n).map (fun x => x * often ^ n), (ldT t n).map fun r => r.map fun x => x * often ^ n)) (ev_callT2 (x := t') (y := n) (ev_var rfl r8c) (ev_var rfl (rn _ n)) (by omega) (blocksM_some hxs')) (ev_var rfl r14))) (show (!decide ((mtT t' n, ldT t' n) = ((mtT t n).map (fun x => x * often ^ n), (ldT t n).map fun r => r.map fun x => x * often ^ n))) = false by rw [mb1, mb2, decide_eq_true rfl]; rfl)) fun _ => et_test (ev_neShares (o := oT t n) (Ev.is (ev_call2 (x := t') (y := n) (ev_var rfl r8c) (ev_var rfl (rn _ n)) pre') om) (ev_call2 (x := t) (y := n) (ev_var rfl r7c) (ev_var rfl (rn _ n)) pre))) rfl) (fun z => nomatch z) fun _ F14 H14 g14 => ?_
    have r7d := Mn.mono g14.ff r7c
    have r9d := Mn.mono g14.ff r9c
    walk_at "n"
    refine x_if (b := false) g14.fh (EvT.is (et_and (b := false) (et_test (ev_notN (ev_call2 (x := t) (y := n) (ev_var rfl r7d) (ev_var rfl (rn _ n)) pre))) fun hsome => et_test (ev_neShares (o := oT t n) (Ev.is (ev_call2 (x := idleT t htl) (y := n) (ev_var rfl r9d) (ev_var rfl (rn _ n)) preI) (once_idle (by
        intro z
        unfold oT at hsome
        rw [if_pos z] at hsome
        cases hsome) (by decide) hMt hbt)) (ev_call2 (x := t) (y := n) (ev_var rfl r7d) (ev_var rfl (rn _ n)) pre))) (Bool.and_false _)) (fun z => nomatch z) fun _ F15 H15 g15 => ?_
    have gX := g1113.trans (g14.trans g15)
    obtain ⟨o11, ho11⟩ := s11.someO
    have fb15 := gX.nn ho11 fb11
    have s15 := s11.gr gX
    walk_at "n"
    refine x_ifS (c := 100) (ets_not (ets_test (es_callP3 (x := t) (y := idleT t htl) (z := n) rfl (fun F16 H16 g16 _ => ev_var rfl (Mn.mono (g15.ff.trans g16.ff) r7d)) (fun F16 H16 g16 _ => ev_var rfl (Mn.mono (g15.ff.trans g16.ff) r9d)) (fun F16 H16 g16 _ => ev_var rfl (rn _ n)) ⟨⟨htl, rfl⟩, n1, n5, by show maps.length ≤ 10; omega⟩))) g15.fh fb15 s15 (by omega) (fun z => absurd (show (!true) = true from z) (by decide)) fun _ F16 H16 g16 _ _ => ?_
    walk_at "n"
    exact ⟨F16, e2.trans (g2.ff.trans (g3.ff.trans (g4.ff.trans (g5.ff.trans (g6.ff.trans (g7.ff.trans (g8.ff.trans (g9.ff.trans (g11.ff.trans (gX.ff.trans g16.ff)))))))))), g16.fh, _, _, _, _, _, _, _, _, _, _, _, _, _, _, _, _, rfl⟩
  · rintro σ' F' H' e1 e2 ⟨y1, y2, y3, y4, y5, y6, y7, y8, y9, y10, y11, y12, y13, y14, y15, y16, rfl⟩
    walk_at "n"
    exact x_ret e2 ev_bl fun v F2 H2 g2 r => by
      cases (show v = _ from r)
      exact k _

end
theorem all_mk {l : PySem.W.OpenLaw} {w : World} {K : PySem.W.Frag} {h : Heap} {mg : Str → Option Value} {fa f_is_whole f_is_between f_common f_Share_init f_Share_eq f_with_pivot f_cleared f_solved f_is_map f_Turns_init f_Turns_len f_check_signs f_begin_of f_then f_has_met f_map_of f_found_from f_maps_of f_gone_on f_map_counts f_blocks f_NeverMeets_init f_once_shares f_read_once f__law_well f__law_draw f__law_one f__law_map f__law_turns f__law_told f__law_mixed f__law_idle_right f_law C_Share C_Turns C_DrawError C_NeverMeets C_TooMany : Addr} {t_MOST_MAPS t_MOST_PLACES t_MOST_SIGNS : Tok} (X : K.In h) (G : h.Ns mainGlobals mg) (hfa : mg "law" = some (.ref fa)) {ts : List Addr} (hTab : ∀ P ∈ ts, h.get? P = some (PySem.W.tabObj #[]))
    {od_is_whole an_is_whole : Option Addr} {sl_is_whole : Array (Option Value)} {oc_is_whole kV_is_whole dc_is_whole pm_is_whole ct_is_whole : Value} {cd_is_whole : Value}
    {od_is_between an_is_between : Option Addr} {sl_is_between : Array (Option Value)} {oc_is_between kV_is_between dc_is_between pm_is_between ct_is_between : Value} {cd_is_between : Value}
    {od_common an_common : Option Addr} {sl_common : Array (Option Value)} {oc_common kV_common dc_common pm_common ct_common : Value} {cd_common : Value}
    {od_Share_init an_Share_init : Option Addr} {sl_Share_init : Array (Option Value)} {oc_Share_init kV_Share_init dc_Share_init pm_Share_init ct_Share_init : Value} {cd_Share_init : Value}
    {od_Share_eq an_Share_eq : Option Addr} {sl_Share_eq : Array (Option Value)} {oc_Share_eq kV_Share_eq dc_Share_eq pm_Share_eq ct_Share_eq : Value} {cd_Share_eq : Value}
    {od_with_pivot an_with_pivot : Option Addr} {sl_with_pivot : Array (Option Value)} {oc_with_pivot kV_with_pivot dc_with_pivot pm_with_pivot ct_with_pivot : Value} {cd_with_pivot : Value}
    {od_cleared an_cleared : Option Addr} {sl_cleared : Array (Option Value)} {oc_cleared kV_cleared dc_cleared pm_cleared ct_cleared : Value} {cd_cleared : Value}
    {od_solved an_solved : Option Addr} {sl_solved : Array (Option Value)} {oc_solved kV_solved dc_solved pm_solved ct_solved : Value} {cd_solved : Value}
    {od_is_map an_is_map : Option Addr} {sl_is_map : Array (Option Value)} {oc_is_map kV_is_map dc_is_map pm_is_map ct_is_map : Value} {cd_is_map : Value}
    {od_Turns_init an_Turns_init : Option Addr} {sl_Turns_init : Array (Option Value)} {oc_Turns_init kV_Turns_init dc_Turns_init pm_Turns_init ct_Turns_init : Value} {cd_Turns_init : Value}
    {od_Turns_len an_Turns_len : Option Addr} {sl_Turns_len : Array (Option Value)} {oc_Turns_len kV_Turns_len dc_Turns_len pm_Turns_len ct_Turns_len : Value} {cd_Turns_len : Value}
    {od_check_signs an_check_signs : Option Addr} {sl_check_signs : Array (Option Value)} {oc_check_signs kV_check_signs dc_check_signs pm_check_signs ct_check_signs : Value} {cd_check_signs : Value}
    {od_begin_of an_begin_of : Option Addr} {sl_begin_of : Array (Option Value)} {oc_begin_of kV_begin_of dc_begin_of pm_begin_of ct_begin_of : Value} {cd_begin_of : Value}
    {od_then an_then : Option Addr} {sl_then : Array (Option Value)} {oc_then kV_then dc_then pm_then ct_then : Value} {cd_then : Value}
    {od_has_met an_has_met : Option Addr} {sl_has_met : Array (Option Value)} {oc_has_met kV_has_met dc_has_met pm_has_met ct_has_met : Value} {cd_has_met : Value}
    {od_map_of an_map_of : Option Addr} {sl_map_of : Array (Option Value)} {oc_map_of kV_map_of dc_map_of pm_map_of ct_map_of : Value} {cd_map_of : Value}
    {od_found_from an_found_from : Option Addr} {sl_found_from : Array (Option Value)} {oc_found_from kV_found_from dc_found_from pm_found_from ct_found_from : Value} {cd_found_from : Value}
    {od_maps_of an_maps_of : Option Addr} {sl_maps_of : Array (Option Value)} {oc_maps_of kV_maps_of dc_maps_of pm_maps_of ct_maps_of : Value}
    {od_gone_on an_gone_on : Option Addr} {sl_gone_on : Array (Option Value)} {oc_gone_on kV_gone_on dc_gone_on pm_gone_on ct_gone_on : Value} {cd_gone_on : Value}
    {od_map_counts an_map_counts : Option Addr} {sl_map_counts : Array (Option Value)} {oc_map_counts kV_map_counts dc_map_counts pm_map_counts ct_map_counts : Value} {cd_map_counts : Value}
    {od_blocks an_blocks : Option Addr} {sl_blocks : Array (Option Value)} {oc_blocks kV_blocks dc_blocks pm_blocks ct_blocks : Value} {cd_blocks : Value}
    {od_NeverMeets_init an_NeverMeets_init : Option Addr} {sl_NeverMeets_init : Array (Option Value)} {oc_NeverMeets_init kV_NeverMeets_init dc_NeverMeets_init pm_NeverMeets_init ct_NeverMeets_init : Value} {cd_NeverMeets_init : Value}
    {od_once_shares an_once_shares : Option Addr} {sl_once_shares : Array (Option Value)} {oc_once_shares kV_once_shares dc_once_shares pm_once_shares ct_once_shares : Value} {cd_once_shares : Value}
    {od_read_once an_read_once : Option Addr} {sl_read_once : Array (Option Value)} {oc_read_once kV_read_once dc_read_once pm_read_once ct_read_once : Value} {cd_read_once : Value}
    {od__law_well an__law_well : Option Addr} {sl__law_well : Array (Option Value)} {oc__law_well kV__law_well dc__law_well pm__law_well ct__law_well : Value} {cd__law_well : Value}
    {od__law_draw an__law_draw : Option Addr} {sl__law_draw : Array (Option Value)} {oc__law_draw kV__law_draw dc__law_draw pm__law_draw ct__law_draw : Value} {cd__law_draw : Value}
    {od__law_one an__law_one : Option Addr} {sl__law_one : Array (Option Value)} {oc__law_one kV__law_one dc__law_one pm__law_one ct__law_one : Value} {cd__law_one : Value}
    {od__law_map an__law_map : Option Addr} {sl__law_map : Array (Option Value)} {oc__law_map kV__law_map dc__law_map pm__law_map ct__law_map : Value} {cd__law_map : Value}
    {od__law_turns an__law_turns : Option Addr} {sl__law_turns : Array (Option Value)} {oc__law_turns kV__law_turns dc__law_turns pm__law_turns ct__law_turns : Value} {cd__law_turns : Value}
    {od__law_told an__law_told : Option Addr} {sl__law_told : Array (Option Value)} {oc__law_told kV__law_told dc__law_told pm__law_told ct__law_told : Value} {cd__law_told : Value}
    {od__law_mixed an__law_mixed : Option Addr} {sl__law_mixed : Array (Option Value)} {oc__law_mixed kV__law_mixed dc__law_mixed pm__law_mixed ct__law_mixed : Value} {cd__law_mixed : Value}
    {od__law_idle_right an__law_idle_right : Option Addr} {sl__law_idle_right : Array (Option Value)} {oc__law_idle_right kV__law_idle_right dc__law_idle_right pm__law_idle_right ct__law_idle_right : Value} {cd__law_idle_right : Value}
    {od_law an_law : Option Addr} {sl_law : Array (Option Value)} {oc_law kV_law dc_law pm_law ct_law : Value} {cd_law : Value}
    {cc_maps_of P_maps_of : Addr} {co_maps_of : Obj}
    {dT_Share_init : Addr} {do_Share_init : Option Addr} {dt0_Share_init : Tok} {dn_Share_init : Nat} {ds_Share_init : Array (Option Value)}
    {xn_NeverMeets xq_NeverMeets : Str} {xN_NeverMeets : Addr} {xb_NeverMeets xm_NeverMeets : List Value} {xs_NeverMeets : List Str} {xu_NeverMeets : List Value} {xa_NeverMeets : Bool} {xc_NeverMeets : Option Bool} {xd_NeverMeets : Option Addr} {x0_NeverMeets x1_NeverMeets x2_NeverMeets x3_NeverMeets x5_NeverMeets : Option Value}
    (aC_Share : PySem.W.nsIn K mainGlobals "Share" = some (some (.ref C_Share)))
    (aC_Turns : PySem.W.nsIn K mainGlobals "Turns" = some (some (.ref C_Turns)))
    (aC_DrawError : PySem.W.nsIn K mainGlobals "DrawError" = some (some (.ref C_DrawError)))
    (aC_NeverMeets : PySem.W.nsIn K mainGlobals "NeverMeets" = some (some (.ref C_NeverMeets)))
    (aC_TooMany : PySem.W.nsIn K mainGlobals "TooMany" = some (some (.ref C_TooMany)))
    (a_is_whole : PySem.W.nsIn K mainGlobals "is_whole" = some (some (.ref f_is_whole)))
    (l_is_whole : K.lookup f_is_whole = some ⟨oc_is_whole, od_is_whole, .func (PySem.W.fnOf "is_whole" "is_whole" (defArgs s_is_whole) (defBody s_is_whole) (defScope s_is_whole) .none kV_is_whole dc_is_whole pm_is_whole an_is_whole cd_is_whole ct_is_whole), sl_is_whole⟩)
    (c_is_whole : PySem.W.codeIn K cd_is_whole "is_whole" = true)
    (k_is_whole : PySem.W.keepIn K (.ref f_is_whole) = true)
    (a_is_between : PySem.W.nsIn K mainGlobals "is_between" = some (some (.ref f_is_between)))
    (l_is_between : K.lookup f_is_between = some ⟨oc_is_between, od_is_between, .func (PySem.W.fnOf "is_between" "is_between" (defArgs s_is_between) (defBody s_is_between) (defScope s_is_between) .none kV_is_between dc_is_between pm_is_between an_is_between cd_is_between ct_is_between), sl_is_between⟩)
    (c_is_between : PySem.W.codeIn K cd_is_between "is_between" = true)
    (k_is_between : PySem.W.keepIn K (.ref f_is_between) = true)
    (a_common : PySem.W.nsIn K mainGlobals "common" = some (some (.ref f_common)))
    (l_common : K.lookup f_common = some ⟨oc_common, od_common, .func (PySem.W.fnOf "common" "common" (defArgs s_common) (defBody s_common) (defScope s_common) .none kV_common dc_common pm_common an_common cd_common ct_common), sl_common⟩)
    (c_common : PySem.W.codeIn K cd_common "common" = true)
    (k_common : PySem.W.keepIn K (.ref f_common) = true)
    (a_Share_init : PySem.W.findIn K (.ref C_Share) "__init__" = some (some (.ref f_Share_init)))
    (i_Share_init : PySem.W.isFn K (.ref f_Share_init) = true)
    (l_Share_init : K.lookup f_Share_init = some ⟨oc_Share_init, od_Share_init, .func (PySem.W.fnOf "__init__" "Share.__init__" (defArgs s_Share_init) (defBody s_Share_init) (defScope s_Share_init) (.ref dT_Share_init) kV_Share_init dc_Share_init pm_Share_init an_Share_init cd_Share_init ct_Share_init), sl_Share_init⟩)
    (dl_Share_init : K.lookup dT_Share_init = some ⟨.type "tuple", do_Share_init, .seq #[.int 1 dt0_Share_init] dn_Share_init, ds_Share_init⟩)
    (c_Share_init : PySem.W.codeIn K cd_Share_init "Share.__init__" = true)
    (k_Share_init : PySem.W.keepIn K (.ref f_Share_init) = true)
    (a_Share_eq : PySem.W.findIn K (.ref C_Share) "__eq__" = some (some (.ref f_Share_eq)))
    (i_Share_eq : PySem.W.isFn K (.ref f_Share_eq) = true)
    (l_Share_eq : K.lookup f_Share_eq = some ⟨oc_Share_eq, od_Share_eq, .func (PySem.W.fnOf "__eq__" "Share.__eq__" (defArgs s_Share_eq) (defBody s_Share_eq) (defScope s_Share_eq) .none kV_Share_eq dc_Share_eq pm_Share_eq an_Share_eq cd_Share_eq ct_Share_eq), sl_Share_eq⟩)
    (c_Share_eq : PySem.W.codeIn K cd_Share_eq "Share.__eq__" = true)
    (k_Share_eq : PySem.W.keepIn K (.ref f_Share_eq) = true)
    (a_with_pivot : PySem.W.nsIn K mainGlobals "with_pivot" = some (some (.ref f_with_pivot)))
    (l_with_pivot : K.lookup f_with_pivot = some ⟨oc_with_pivot, od_with_pivot, .func (PySem.W.fnOf "with_pivot" "with_pivot" (defArgs s_with_pivot) (defBody s_with_pivot) (defScope s_with_pivot) .none kV_with_pivot dc_with_pivot pm_with_pivot an_with_pivot cd_with_pivot ct_with_pivot), sl_with_pivot⟩)
    (c_with_pivot : PySem.W.codeIn K cd_with_pivot "with_pivot" = true)
    (k_with_pivot : PySem.W.keepIn K (.ref f_with_pivot) = true)
    (a_cleared : PySem.W.nsIn K mainGlobals "cleared" = some (some (.ref f_cleared)))
    (l_cleared : K.lookup f_cleared = some ⟨oc_cleared, od_cleared, .func (PySem.W.fnOf "cleared" "cleared" (defArgs s_cleared) (defBody s_cleared) (defScope s_cleared) .none kV_cleared dc_cleared pm_cleared an_cleared cd_cleared ct_cleared), sl_cleared⟩)
    (c_cleared : PySem.W.codeIn K cd_cleared "cleared" = true)
    (k_cleared : PySem.W.keepIn K (.ref f_cleared) = true)
    (a_solved : PySem.W.nsIn K mainGlobals "solved" = some (some (.ref f_solved)))
    (l_solved : K.lookup f_solved = some ⟨oc_solved, od_solved, .func (PySem.W.fnOf "solved" "solved" (defArgs s_solved) (defBody s_solved) (defScope s_solved) .none kV_solved dc_solved pm_solved an_solved cd_solved ct_solved), sl_solved⟩)
    (c_solved : PySem.W.codeIn K cd_solved "solved" = true)
    (k_solved : PySem.W.keepIn K (.ref f_solved) = true)
    (a_is_map : PySem.W.nsIn K mainGlobals "is_map" = some (some (.ref f_is_map)))
    (l_is_map : K.lookup f_is_map = some ⟨oc_is_map, od_is_map, .func (PySem.W.fnOf "is_map" "is_map" (defArgs s_is_map) (defBody s_is_map) (defScope s_is_map) .none kV_is_map dc_is_map pm_is_map an_is_map cd_is_map ct_is_map), sl_is_map⟩)
    (c_is_map : PySem.W.codeIn K cd_is_map "is_map" = true)
    (k_is_map : PySem.W.keepIn K (.ref f_is_map) = true)
    (a_Turns_init : PySem.W.findIn K (.ref C_Turns) "__init__" = some (some (.ref f_Turns_init)))
    (i_Turns_init : PySem.W.isFn K (.ref f_Turns_init) = true)
    (l_Turns_init : K.lookup f_Turns_init = some ⟨oc_Turns_init, od_Turns_init, .func (PySem.W.fnOf "__init__" "Turns.__init__" (defArgs s_Turns_init) (defBody s_Turns_init) (defScope s_Turns_init) .none kV_Turns_init dc_Turns_init pm_Turns_init an_Turns_init cd_Turns_init ct_Turns_init), sl_Turns_init⟩)
    (c_Turns_init : PySem.W.codeIn K cd_Turns_init "Turns.__init__" = true)
    (k_Turns_init : PySem.W.keepIn K (.ref f_Turns_init) = true)
    (a_Turns_len : PySem.W.findIn K (.ref C_Turns) "__len__" = some (some (.ref f_Turns_len)))
    (i_Turns_len : PySem.W.isFn K (.ref f_Turns_len) = true)
    (l_Turns_len : K.lookup f_Turns_len = some ⟨oc_Turns_len, od_Turns_len, .func (PySem.W.fnOf "__len__" "Turns.__len__" (defArgs s_Turns_len) (defBody s_Turns_len) (defScope s_Turns_len) .none kV_Turns_len dc_Turns_len pm_Turns_len an_Turns_len cd_Turns_len ct_Turns_len), sl_Turns_len⟩)
    (c_Turns_len : PySem.W.codeIn K cd_Turns_len "Turns.__len__" = true)
    (k_Turns_len : PySem.W.keepIn K (.ref f_Turns_len) = true)
    (a_check_signs : PySem.W.nsIn K mainGlobals "check_signs" = some (some (.ref f_check_signs)))
    (l_check_signs : K.lookup f_check_signs = some ⟨oc_check_signs, od_check_signs, .func (PySem.W.fnOf "check_signs" "check_signs" (defArgs s_check_signs) (defBody s_check_signs) (defScope s_check_signs) .none kV_check_signs dc_check_signs pm_check_signs an_check_signs cd_check_signs ct_check_signs), sl_check_signs⟩)
    (c_check_signs : PySem.W.codeIn K cd_check_signs "check_signs" = true)
    (k_check_signs : PySem.W.keepIn K (.ref f_check_signs) = true)
    (a_begin_of : PySem.W.nsIn K mainGlobals "begin_of" = some (some (.ref f_begin_of)))
    (l_begin_of : K.lookup f_begin_of = some ⟨oc_begin_of, od_begin_of, .func (PySem.W.fnOf "begin_of" "begin_of" (defArgs s_begin_of) (defBody s_begin_of) (defScope s_begin_of) .none kV_begin_of dc_begin_of pm_begin_of an_begin_of cd_begin_of ct_begin_of), sl_begin_of⟩)
    (c_begin_of : PySem.W.codeIn K cd_begin_of "begin_of" = true)
    (k_begin_of : PySem.W.keepIn K (.ref f_begin_of) = true)
    (a_then : PySem.W.nsIn K mainGlobals "then" = some (some (.ref f_then)))
    (l_then : K.lookup f_then = some ⟨oc_then, od_then, .func (PySem.W.fnOf "then" "then" (defArgs s_then) (defBody s_then) (defScope s_then) .none kV_then dc_then pm_then an_then cd_then ct_then), sl_then⟩)
    (c_then : PySem.W.codeIn K cd_then "then" = true)
    (k_then : PySem.W.keepIn K (.ref f_then) = true)
    (a_has_met : PySem.W.nsIn K mainGlobals "has_met" = some (some (.ref f_has_met)))
    (l_has_met : K.lookup f_has_met = some ⟨oc_has_met, od_has_met, .func (PySem.W.fnOf "has_met" "has_met" (defArgs s_has_met) (defBody s_has_met) (defScope s_has_met) .none kV_has_met dc_has_met pm_has_met an_has_met cd_has_met ct_has_met), sl_has_met⟩)
    (c_has_met : PySem.W.codeIn K cd_has_met "has_met" = true)
    (k_has_met : PySem.W.keepIn K (.ref f_has_met) = true)
    (a_map_of : PySem.W.nsIn K mainGlobals "map_of" = some (some (.ref f_map_of)))
    (l_map_of : K.lookup f_map_of = some ⟨oc_map_of, od_map_of, .func (PySem.W.fnOf "map_of" "map_of" (defArgs s_map_of) (defBody s_map_of) (defScope s_map_of) .none kV_map_of dc_map_of pm_map_of an_map_of cd_map_of ct_map_of), sl_map_of⟩)
    (c_map_of : PySem.W.codeIn K cd_map_of "map_of" = true)
    (k_map_of : PySem.W.keepIn K (.ref f_map_of) = true)
    (a_found_from : PySem.W.nsIn K mainGlobals "found_from" = some (some (.ref f_found_from)))
    (l_found_from : K.lookup f_found_from = some ⟨oc_found_from, od_found_from, .func (PySem.W.fnOf "found_from" "found_from" (defArgs s_found_from) (defBody s_found_from) (defScope s_found_from) .none kV_found_from dc_found_from pm_found_from an_found_from cd_found_from ct_found_from), sl_found_from⟩)
    (c_found_from : PySem.W.codeIn K cd_found_from "found_from" = true)
    (k_found_from : PySem.W.keepIn K (.ref f_found_from) = true)
    (a_maps_of : PySem.W.nsIn K mainGlobals "maps_of" = some (some (.ref f_maps_of)))
    (l_maps_of : K.lookup f_maps_of = some ⟨oc_maps_of, od_maps_of, .func (PySem.W.fnOf "maps_of" "maps_of" (defArgs s_maps_of) (defBody s_maps_of) (defScope s_maps_of) .none kV_maps_of dc_maps_of pm_maps_of an_maps_of (.ref cc_maps_of) ct_maps_of), sl_maps_of⟩)
    (lc_maps_of : K.lookup cc_maps_of = some co_maps_of)
    (tp_maps_of : tabOf co_maps_of = some (.ref P_maps_of))
    (hd_maps_of : PySem.W.codeHdIn K cc_maps_of P_maps_of = true)
    (np_maps_of : K.lookup P_maps_of = none)
    (ts_maps_of : P_maps_of ∈ ts)
    (c_maps_of : PySem.W.codeIn K (.ref cc_maps_of) "maps_of" = true)
    (k_maps_of : PySem.W.keepIn K (.ref f_maps_of) = true)
    (a_gone_on : PySem.W.nsIn K mainGlobals "gone_on" = some (some (.ref f_gone_on)))
    (l_gone_on : K.lookup f_gone_on = some ⟨oc_gone_on, od_gone_on, .func (PySem.W.fnOf "gone_on" "gone_on" (defArgs s_gone_on) (defBody s_gone_on) (defScope s_gone_on) .none kV_gone_on dc_gone_on pm_gone_on an_gone_on cd_gone_on ct_gone_on), sl_gone_on⟩)
    (c_gone_on : PySem.W.codeIn K cd_gone_on "gone_on" = true)
    (k_gone_on : PySem.W.keepIn K (.ref f_gone_on) = true)
    (a_map_counts : PySem.W.nsIn K mainGlobals "map_counts" = some (some (.ref f_map_counts)))
    (l_map_counts : K.lookup f_map_counts = some ⟨oc_map_counts, od_map_counts, .func (PySem.W.fnOf "map_counts" "map_counts" (defArgs s_map_counts) (defBody s_map_counts) (defScope s_map_counts) .none kV_map_counts dc_map_counts pm_map_counts an_map_counts cd_map_counts ct_map_counts), sl_map_counts⟩)
    (c_map_counts : PySem.W.codeIn K cd_map_counts "map_counts" = true)
    (k_map_counts : PySem.W.keepIn K (.ref f_map_counts) = true)
    (a_blocks : PySem.W.nsIn K mainGlobals "blocks" = some (some (.ref f_blocks)))
    (l_blocks : K.lookup f_blocks = some ⟨oc_blocks, od_blocks, .func (PySem.W.fnOf "blocks" "blocks" (defArgs s_blocks) (defBody s_blocks) (defScope s_blocks) .none kV_blocks dc_blocks pm_blocks an_blocks cd_blocks ct_blocks), sl_blocks⟩)
    (c_blocks : PySem.W.codeIn K cd_blocks "blocks" = true)
    (k_blocks : PySem.W.keepIn K (.ref f_blocks) = true)
    (a_NeverMeets_init : PySem.W.findIn K (.ref C_NeverMeets) "__init__" = some (some (.ref f_NeverMeets_init)))
    (i_NeverMeets_init : PySem.W.isFn K (.ref f_NeverMeets_init) = true)
    (l_NeverMeets_init : K.lookup f_NeverMeets_init = some ⟨oc_NeverMeets_init, od_NeverMeets_init, .func (PySem.W.fnOf "__init__" "NeverMeets.__init__" (defArgs s_NeverMeets_init) (defBody s_NeverMeets_init) (defScope s_NeverMeets_init) .none kV_NeverMeets_init dc_NeverMeets_init pm_NeverMeets_init an_NeverMeets_init cd_NeverMeets_init ct_NeverMeets_init), sl_NeverMeets_init⟩)
    (c_NeverMeets_init : PySem.W.codeIn K cd_NeverMeets_init "NeverMeets.__init__" = true)
    (k_NeverMeets_init : PySem.W.keepIn K (.ref f_NeverMeets_init) = true)
    (a_once_shares : PySem.W.nsIn K mainGlobals "once_shares" = some (some (.ref f_once_shares)))
    (l_once_shares : K.lookup f_once_shares = some ⟨oc_once_shares, od_once_shares, .func (PySem.W.fnOf "once_shares" "once_shares" (defArgs s_once_shares) (defBody s_once_shares) (defScope s_once_shares) .none kV_once_shares dc_once_shares pm_once_shares an_once_shares cd_once_shares ct_once_shares), sl_once_shares⟩)
    (c_once_shares : PySem.W.codeIn K cd_once_shares "once_shares" = true)
    (k_once_shares : PySem.W.keepIn K (.ref f_once_shares) = true)
    (a_read_once : PySem.W.nsIn K mainGlobals "read_once" = some (some (.ref f_read_once)))
    (l_read_once : K.lookup f_read_once = some ⟨oc_read_once, od_read_once, .func (PySem.W.fnOf "read_once" "read_once" (defArgs s_read_once) (defBody s_read_once) (defScope s_read_once) .none kV_read_once dc_read_once pm_read_once an_read_once cd_read_once ct_read_once), sl_read_once⟩)
    (c_read_once : PySem.W.codeIn K cd_read_once "read_once" = true)
    (k_read_once : PySem.W.keepIn K (.ref f_read_once) = true)
    (a__law_well : PySem.W.nsIn K mainGlobals "_law_well" = some (some (.ref f__law_well)))
    (l__law_well : K.lookup f__law_well = some ⟨oc__law_well, od__law_well, .func (PySem.W.fnOf "_law_well" "_law_well" (defArgs s__law_well) (defBody s__law_well) (defScope s__law_well) .none kV__law_well dc__law_well pm__law_well an__law_well cd__law_well ct__law_well), sl__law_well⟩)
    (c__law_well : PySem.W.codeIn K cd__law_well "_law_well" = true)
    (k__law_well : PySem.W.keepIn K (.ref f__law_well) = true)
    (a__law_draw : PySem.W.nsIn K mainGlobals "_law_draw" = some (some (.ref f__law_draw)))
    (l__law_draw : K.lookup f__law_draw = some ⟨oc__law_draw, od__law_draw, .func (PySem.W.fnOf "_law_draw" "_law_draw" (defArgs s__law_draw) (defBody s__law_draw) (defScope s__law_draw) .none kV__law_draw dc__law_draw pm__law_draw an__law_draw cd__law_draw ct__law_draw), sl__law_draw⟩)
    (c__law_draw : PySem.W.codeIn K cd__law_draw "_law_draw" = true)
    (k__law_draw : PySem.W.keepIn K (.ref f__law_draw) = true)
    (a__law_one : PySem.W.nsIn K mainGlobals "_law_one" = some (some (.ref f__law_one)))
    (l__law_one : K.lookup f__law_one = some ⟨oc__law_one, od__law_one, .func (PySem.W.fnOf "_law_one" "_law_one" (defArgs s__law_one) (defBody s__law_one) (defScope s__law_one) .none kV__law_one dc__law_one pm__law_one an__law_one cd__law_one ct__law_one), sl__law_one⟩)
    (c__law_one : PySem.W.codeIn K cd__law_one "_law_one" = true)
    (k__law_one : PySem.W.keepIn K (.ref f__law_one) = true)
    (a__law_map : PySem.W.nsIn K mainGlobals "_law_map" = some (some (.ref f__law_map)))
    (l__law_map : K.lookup f__law_map = some ⟨oc__law_map, od__law_map, .func (PySem.W.fnOf "_law_map" "_law_map" (defArgs s__law_map) (defBody s__law_map) (defScope s__law_map) .none kV__law_map dc__law_map pm__law_map an__law_map cd__law_map ct__law_map), sl__law_map⟩)
    (c__law_map : PySem.W.codeIn K cd__law_map "_law_map" = true)
    (k__law_map : PySem.W.keepIn K (.ref f__law_map) = true)
    (a__law_turns : PySem.W.nsIn K mainGlobals "_law_turns" = some (some (.ref f__law_turns)))
    (l__law_turns : K.lookup f__law_turns = some ⟨oc__law_turns, od__law_turns, .func (PySem.W.fnOf "_law_turns" "_law_turns" (defArgs s__law_turns) (defBody s__law_turns) (defScope s__law_turns) .none kV__law_turns dc__law_turns pm__law_turns an__law_turns cd__law_turns ct__law_turns), sl__law_turns⟩)
    (c__law_turns : PySem.W.codeIn K cd__law_turns "_law_turns" = true)
    (k__law_turns : PySem.W.keepIn K (.ref f__law_turns) = true)
    (a__law_told : PySem.W.nsIn K mainGlobals "_law_told" = some (some (.ref f__law_told)))
    (l__law_told : K.lookup f__law_told = some ⟨oc__law_told, od__law_told, .func (PySem.W.fnOf "_law_told" "_law_told" (defArgs s__law_told) (defBody s__law_told) (defScope s__law_told) .none kV__law_told dc__law_told pm__law_told an__law_told cd__law_told ct__law_told), sl__law_told⟩)
    (c__law_told : PySem.W.codeIn K cd__law_told "_law_told" = true)
    (k__law_told : PySem.W.keepIn K (.ref f__law_told) = true)
    (a__law_mixed : PySem.W.nsIn K mainGlobals "_law_mixed" = some (some (.ref f__law_mixed)))
    (l__law_mixed : K.lookup f__law_mixed = some ⟨oc__law_mixed, od__law_mixed, .func (PySem.W.fnOf "_law_mixed" "_law_mixed" (defArgs s__law_mixed) (defBody s__law_mixed) (defScope s__law_mixed) .none kV__law_mixed dc__law_mixed pm__law_mixed an__law_mixed cd__law_mixed ct__law_mixed), sl__law_mixed⟩)
    (c__law_mixed : PySem.W.codeIn K cd__law_mixed "_law_mixed" = true)
    (k__law_mixed : PySem.W.keepIn K (.ref f__law_mixed) = true)
    (a__law_idle_right : PySem.W.nsIn K mainGlobals "_law_idle_right" = some (some (.ref f__law_idle_right)))
    (l__law_idle_right : K.lookup f__law_idle_right = some ⟨oc__law_idle_right, od__law_idle_right, .func (PySem.W.fnOf "_law_idle_right" "_law_idle_right" (defArgs s__law_idle_right) (defBody s__law_idle_right) (defScope s__law_idle_right) .none kV__law_idle_right dc__law_idle_right pm__law_idle_right an__law_idle_right cd__law_idle_right ct__law_idle_right), sl__law_idle_right⟩)
    (c__law_idle_right : PySem.W.codeIn K cd__law_idle_right "_law_idle_right" = true)
    (k__law_idle_right : PySem.W.keepIn K (.ref f__law_idle_right) = true)
    (a_law : PySem.W.nsIn K mainGlobals "law" = some (some (.ref f_law)))
    (l_law : K.lookup f_law = some ⟨oc_law, od_law, .func (PySem.W.fnOf "law" "law" (defArgs s_law) (defBody s_law) (defScope s_law) .none kV_law dc_law pm_law an_law cd_law ct_law), sl_law⟩)
    (c_law : PySem.W.codeIn K cd_law "law" = true)
    (k_law : PySem.W.keepIn K (.ref f_law) = true)
    (pg_Share : PySem.W.plainGet K C_Share Str.empty = true)
    (hd_Share : PySem.W.hasDictIn K C_Share = true)
    (po_Share : PySem.W.plainOver K C_Share = true)
    (sa_Share : PySem.W.findIn K (.ref C_Share) "__setattr__" = some (some (.builtin "object.__setattr__")))
    (kc_Share : PySem.W.keepIn K (.ref C_Share) = true)
    (mk_Share : PySem.W.makesIn K C_Share = true)
    (ha_Share : PySem.W.findIn K (.ref C_Share) "__class__" = some (some (.builtin "object.__class__")))
    (hn_Share : PySem.W.specialIn K (.builtin "object.__class__") "__get__" = some (some (.builtin "getset_descriptor.__get__")))
    (ht_Share : PySem.W.takesIn K (.builtin "object.__class__") = some true)
    (hm_Share : PySem.W.mroIn K C_Share (.type "object") = some true)
    (pg_Turns : PySem.W.plainGet K C_Turns Str.empty = true)
    (hd_Turns : PySem.W.hasDictIn K C_Turns = true)
    (po_Turns : PySem.W.plainOver K C_Turns = true)
    (sa_Turns : PySem.W.findIn K (.ref C_Turns) "__setattr__" = some (some (.builtin "object.__setattr__")))
    (kc_Turns : PySem.W.keepIn K (.ref C_Turns) = true)
    (mk_Turns : PySem.W.makesIn K C_Turns = true)
    (bg_DrawError : PySem.W.specialIn K (.ref C_DrawError) "__getattribute__" = some (some (.builtin "type.__getattribute__")))
    (br_DrawError : PySem.W.readsIn K C_DrawError (.type "type") = true)
    (bt_DrawError : PySem.W.typeIn K (.ref C_DrawError) = some (.type "type"))
    (bi_DrawError : PySem.W.findCls K (.ref C_DrawError) (.type "type") "__init__" = some (.val (.builtin "ValueError.__init__")))
    (xL_NeverMeets : K.lookup C_NeverMeets = some (excClassObj xn_NeverMeets xq_NeverMeets C_NeverMeets xN_NeverMeets xb_NeverMeets xm_NeverMeets true xs_NeverMeets xu_NeverMeets xa_NeverMeets xc_NeverMeets xd_NeverMeets x0_NeverMeets x1_NeverMeets x2_NeverMeets x3_NeverMeets x5_NeverMeets "ValueError.__new__"))
    (xv_NeverMeets : PySem.HandSPX.refsVE xm_NeverMeets = true)
    (xsa_NeverMeets : PySem.W.findIn K (.ref C_NeverMeets) "__setattr__" = some (some (.builtin "object.__setattr__")))
    (xec_NeverMeets : PySem.W.subIn K (.ref C_NeverMeets) (.type "BaseException") = some true)
    (xty_NeverMeets : PySem.W.typeIn K (.ref C_NeverMeets) = some (.type "type"))
    (xkc_NeverMeets : PySem.W.keepIn K (.ref C_NeverMeets) = true)
    (xtf_NeverMeets : PySem.W.typeIn K (.ref f_NeverMeets_init) = some (.type "function"))
    (xga_NeverMeets : PySem.W.findIn K (.ref C_NeverMeets) "__getattribute__" = some (some (.builtin "BaseException.__getattribute__")))
    (xgg_NeverMeets : PySem.W.findIn K (.ref C_NeverMeets) "__getattr__" = some none)
    (xhd_NeverMeets : PySem.W.hasDictIn K C_NeverMeets = true)
    (xnf_NeverMeets : PySem.W.findIn K (.ref C_NeverMeets) "pair" = some none)
    (xic_NeverMeets : PySem.W.isClsIn K C_NeverMeets = true)
    (xsc_NeverMeets : PySem.W.subIn K (.ref C_NeverMeets) (.ref C_NeverMeets) = some true)
    (xp_TooMany : PySem.W.excIn K C_TooMany [.type "ValueError", .type "Exception", .type "BaseException", .type "object"] "ValueError.__new__" = true)
    (xkc_TooMany : PySem.W.keepIn K (.ref C_TooMany) = true)
    (xec_TooMany : PySem.W.subIn K (.ref C_TooMany) (.type "BaseException") = some true)
    (xty_TooMany : PySem.W.typeIn K (.ref C_TooMany) = some (.type "type"))
    (xic_TooMany : PySem.W.isClsIn K C_TooMany = true)
    (xsc_TooMany : PySem.W.subIn K (.ref C_TooMany) (.ref C_TooMany) = some true)
    (na_Share_bottom : PySem.W.findIn K (.ref C_Share) "bottom" = some none)
    (na_Share_top : PySem.W.findIn K (.ref C_Share) "top" = some none)
    (na_Turns_many : PySem.W.findIn K (.ref C_Turns) "many" = some none)
    (na_Turns_maps : PySem.W.findIn K (.ref C_Turns) "maps" = some none)
    (z_abs : PySem.W.nsIn K mainGlobals "abs" = some none)
    (z_all : PySem.W.nsIn K mainGlobals "all" = some none)
    (z_bool : PySem.W.nsIn K mainGlobals "bool" = some none)
    (z_enumerate : PySem.W.nsIn K mainGlobals "enumerate" = some none)
    (z_int : PySem.W.nsIn K mainGlobals "int" = some none)
    (z_isinstance : PySem.W.nsIn K mainGlobals "isinstance" = some none)
    (z_len : PySem.W.nsIn K mainGlobals "len" = some none)
    (z_list : PySem.W.nsIn K mainGlobals "list" = some none)
    (z_range : PySem.W.nsIn K mainGlobals "range" = some none)
    (z_set : PySem.W.nsIn K mainGlobals "set" = some none)
    (z_sorted : PySem.W.nsIn K mainGlobals "sorted" = some none)
    (z_sum : PySem.W.nsIn K mainGlobals "sum" = some none)
    (z_tuple : PySem.W.nsIn K mainGlobals "tuple" = some none)
    (z_zip : PySem.W.nsIn K mainGlobals "zip" = some none)
    (g_MOST_MAPS : PySem.W.nsIn K mainGlobals "MOST_MAPS" = some (some (.int 300 t_MOST_MAPS)))
    (g_MOST_PLACES : PySem.W.nsIn K mainGlobals "MOST_PLACES" = some (some (.int 32 t_MOST_PLACES)))
    (g_MOST_SIGNS : PySem.W.nsIn K mainGlobals "MOST_SIGNS" = some (some (.int 200 t_MOST_SIGNS)))
    : LamX.LawAtS l w K CX0 9 63 "_law_script" mg fa h := by
  have e : f_law = fa := by
    have e := hfa.symm.trans (PySem.W.mg_of X G a_law)
    cases e
    rfl
  subst e
  have F_is_whole := fun_mk (st := s_is_whole) l_is_whole c_is_whole k_is_whole
  have b_is_whole := F_is_whole.binds (ps := ["thing"]) fun _ _ _ _ _ _ us hl => match us, hl with | [_], _ => rfl
  have F_is_between := fun_mk (st := s_is_between) l_is_between c_is_between k_is_between
  have b_is_between := F_is_between.binds (ps := ["thing", "least", "most"]) fun _ _ _ _ _ _ us hl => match us, hl with | [_, _, _], _ => rfl
  have F_common := fun_mk (st := s_common) l_common c_common k_common
  have b_common := F_common.binds (ps := ["one", "other"]) fun _ _ _ _ _ _ us hl => match us, hl with | [_, _], _ => rfl
  have F_Share_init : FunD K "__init__" "Share.__init__" (defArgs s_Share_init) (defBody s_Share_init) (defScope s_Share_init) [.int 1] [] f_Share_init _ := ⟨⟨_, _, _, _, _, _, _, _, _, _, rfl, l_Share_init, c_Share_init, .inr ⟨(fun z => nomatch z), _, _, [.int 1 dt0_Share_init], _, rfl, dl_Share_init, rfl, .cons ⟨_, rfl⟩ (.nil)⟩, .inl rfl⟩, k_Share_init⟩
  have b_Share_init := bnd_mk (F_Share_init.binds1 (ps := ["self", "top", "bottom"]) 3 1 (fun z => nomatch z) rfl fun _ _ _ _ _ _ _ us its hl hi => match us, hl, its, hi with | [_, _, _], _, [_], _ => ⟨_, rfl, rfl⟩)
  have bd_Share_init := bnd_mk (F_Share_init.binds1 (ps := ["self", "top", "bottom"]) 2 0 (fun z => nomatch z) rfl fun _ _ _ _ _ _ _ us its hl hi => match us, hl, its, hi with | [_, _], _, [_], _ => ⟨_, rfl, rfl⟩)
  have F_Share_eq := fun_mk (st := s_Share_eq) l_Share_eq c_Share_eq k_Share_eq
  have b_Share_eq := F_Share_eq.binds (ps := ["self", "other"]) fun _ _ _ _ _ _ us hl => match us, hl with | [_, _], _ => rfl
  have F_with_pivot := fun_mk (st := s_with_pivot) l_with_pivot c_with_pivot k_with_pivot
  have b_with_pivot := F_with_pivot.binds (ps := ["rows", "at"]) fun _ _ _ _ _ _ us hl => match us, hl with | [_, _], _ => rfl
  have F_cleared := fun_mk (st := s_cleared) l_cleared c_cleared k_cleared
  have b_cleared := F_cleared.binds (ps := ["rows", "at", "last"]) fun _ _ _ _ _ _ us hl => match us, hl with | [_, _, _], _ => rfl
  have F_solved := fun_mk (st := s_solved) l_solved c_solved k_solved
  have b_solved := F_solved.binds (ps := ["rows"]) fun _ _ _ _ _ _ us hl => match us, hl with | [_], _ => rfl
  have F_is_map := fun_mk (st := s_is_map) l_is_map c_is_map k_is_map
  have b_is_map := F_is_map.binds (ps := ["thing", "many"]) fun _ _ _ _ _ _ us hl => match us, hl with | [_, _], _ => rfl
  have F_Turns_init := fun_mk (st := s_Turns_init) l_Turns_init c_Turns_init k_Turns_init
  have b_Turns_init := F_Turns_init.binds (ps := ["self", "many", "maps"]) fun _ _ _ _ _ _ us hl => match us, hl with | [_, _, _], _ => rfl
  have F_Turns_len := fun_mk (st := s_Turns_len) l_Turns_len c_Turns_len k_Turns_len
  have b_Turns_len := F_Turns_len.binds (ps := ["self"]) fun _ _ _ _ _ _ us hl => match us, hl with | [_], _ => rfl
  have F_check_signs := fun_mk (st := s_check_signs) l_check_signs c_check_signs k_check_signs
  have b_check_signs := F_check_signs.binds (ps := ["turns", "signs"]) fun _ _ _ _ _ _ us hl => match us, hl with | [_, _], _ => rfl
  have F_begin_of := fun_mk (st := s_begin_of) l_begin_of c_begin_of k_begin_of
  have b_begin_of := F_begin_of.binds (ps := ["turns"]) fun _ _ _ _ _ _ us hl => match us, hl with | [_], _ => rfl
  have F_then := fun_mk (st := s_then) l_then c_then k_then
  have b_then := F_then.binds (ps := ["first", "second"]) fun _ _ _ _ _ _ us hl => match us, hl with | [_, _], _ => rfl
  have F_has_met := fun_mk (st := s_has_met) l_has_met c_has_met k_has_met
  have b_has_met := F_has_met.binds (ps := ["one"]) fun _ _ _ _ _ _ us hl => match us, hl with | [_], _ => rfl
  have F_map_of := fun_mk (st := s_map_of) l_map_of c_map_of k_map_of
  have b_map_of := F_map_of.binds (ps := ["turns", "word"]) fun _ _ _ _ _ _ us hl => match us, hl with | [_, _], _ => rfl
  have F_found_from := fun_mk (st := s_found_from) l_found_from c_found_from k_found_from
  have b_found_from := F_found_from.binds (ps := ["begin", "leads", "most"]) fun _ _ _ _ _ _ us hl => match us, hl with | [_, _, _], _ => rfl
  have F_maps_of : FunC K "maps_of" "maps_of" s_maps_of f_maps_of _ cc_maps_of := ⟨⟨_, _, _, _, _, _, _, _, rfl, l_maps_of, c_maps_of⟩, k_maps_of⟩
  have b_maps_of := F_maps_of.plain.binds (ps := ["turns"]) fun _ _ _ _ _ _ us hl => match us, hl with | [_], _ => rfl
  have F_gone_on := fun_mk (st := s_gone_on) l_gone_on c_gone_on k_gone_on
  have b_gone_on := F_gone_on.binds (ps := ["turns", "numbers", "is_elder"]) fun _ _ _ _ _ _ us hl => match us, hl with | [_, _, _], _ => rfl
  have F_map_counts := fun_mk (st := s_map_counts) l_map_counts c_map_counts k_map_counts
  have b_map_counts := F_map_counts.binds (ps := ["turns", "many"]) fun _ _ _ _ _ _ us hl => match us, hl with | [_, _], _ => rfl
  have F_blocks := fun_mk (st := s_blocks) l_blocks c_blocks k_blocks
  have b_blocks := F_blocks.binds (ps := ["turns", "long"]) fun _ _ _ _ _ _ us hl => match us, hl with | [_, _], _ => rfl
  have F_NeverMeets_init := fun_mk (st := s_NeverMeets_init) l_NeverMeets_init c_NeverMeets_init k_NeverMeets_init
  have b_NeverMeets_init := F_NeverMeets_init.binds (ps := ["self", "pair"]) fun _ _ _ _ _ _ us hl => match us, hl with | [_, _], _ => rfl
  have F_once_shares := fun_mk (st := s_once_shares) l_once_shares c_once_shares k_once_shares
  have b_once_shares := F_once_shares.binds (ps := ["turns", "long"]) fun _ _ _ _ _ _ us hl => match us, hl with | [_, _], _ => rfl
  have F_read_once := fun_mk (st := s_read_once) l_read_once c_read_once k_read_once
  have b_read_once := F_read_once.binds (ps := ["turns", "long", "word"]) fun _ _ _ _ _ _ us hl => match us, hl with | [_, _, _], _ => rfl
  have F__law_well := fun_mk (st := s__law_well) l__law_well c__law_well k__law_well
  have b__law_well := F__law_well.binds (ps := ["_law_cell"]) fun _ _ _ _ _ _ us hl => match us, hl with | [_], _ => rfl
  have F__law_draw := fun_mk (st := s__law_draw) l__law_draw c__law_draw k__law_draw
  have b__law_draw := F__law_draw.binds (ps := ["_law_well_here", "_law_many"]) fun _ _ _ _ _ _ us hl => match us, hl with | [_, _], _ => rfl
  have F__law_one := fun_mk (st := s__law_one) l__law_one c__law_one k__law_one
  have b__law_one := F__law_one.binds (ps := ["_law_well_here", "_law_some"]) fun _ _ _ _ _ _ us hl => match us, hl with | [_, _], _ => rfl
  have F__law_map := fun_mk (st := s__law_map) l__law_map c__law_map k__law_map
  have b__law_map := F__law_map.binds (ps := ["_law_well_here", "_law_many"]) fun _ _ _ _ _ _ us hl => match us, hl with | [_, _], _ => rfl
  have F__law_turns := fun_mk (st := s__law_turns) l__law_turns c__law_turns k__law_turns
  have b__law_turns := F__law_turns.binds (ps := ["_law_well_here", "_law_most"]) fun _ _ _ _ _ _ us hl => match us, hl with | [_, _], _ => rfl
  have F__law_told := fun_mk (st := s__law_told) l__law_told c__law_told k__law_told
  have b__law_told := F__law_told.binds (ps := ["_law_turns_here", "_law_long"]) fun _ _ _ _ _ _ us hl => match us, hl with | [_, _], _ => rfl
  have F__law_mixed := fun_mk (st := s__law_mixed) l__law_mixed c__law_mixed k__law_mixed
  have b__law_mixed := F__law_mixed.binds (ps := ["_law_well_here", "_law_some"]) fun _ _ _ _ _ _ us hl => match us, hl with | [_, _], _ => rfl
  have F__law_idle_right := fun_mk (st := s__law_idle_right) l__law_idle_right c__law_idle_right k__law_idle_right
  have b__law_idle_right := F__law_idle_right.binds (ps := ["_law_well_here", "_law_turns_here", "_law_idle", "_law_long"]) fun _ _ _ _ _ _ us hl => match us, hl with | [_, _, _, _], _ => rfl
  have F_law := fun_mk (st := s_law) l_law c_law k_law
  have b_law := F_law.binds (ps := ["_law_script"]) fun _ _ _ _ _ _ us hl => match us, hl with | [_], _ => rfl
  letI LT : LawTabs := ⟨[(P_maps_of, (("maps_of" : Str) ++ (".<locals>." : Str)) ++ ("<lambda>" : Str))]⟩
  let Tb : ∀ b : LawBase, (∀ p ∈ ([(cc_maps_of, P_maps_of)] : List (Addr × Addr)), LamX.TabB (@LawBase.B b) mg p.1 p.2) → @Tx LT b K mg := fun b hB => letI := b; {
a_is_whole := f_is_whole,
    d_is_whole := _,
    F_is_whole := F_is_whole,
    b_is_whole := b_is_whole,
    g_is_whole := PySem.W.mg_of X G a_is_whole,
    a_is_between := f_is_between,
    d_is_between := _,
    F_is_between := F_is_between,
    b_is_between := b_is_between,
    g_is_between := PySem.W.mg_of X G a_is_between,
    a_common := f_common,
    d_common := _,
    F_common := F_common,
    b_common := b_common,
    g_common := PySem.W.mg_of X G a_common,
    a_Share_init := f_Share_init,
    d_Share_init := _,
    F_Share_init := F_Share_init,
    b_Share_init := b_Share_init,
    bd_Share_init := bd_Share_init,
    a_Share_eq := f_Share_eq,
    d_Share_eq := _,
    F_Share_eq := F_Share_eq,
    b_Share_eq := b_Share_eq,
    a_with_pivot := f_with_pivot,
    d_with_pivot := _,
    F_with_pivot := F_with_pivot,
    b_with_pivot := b_with_pivot,
    g_with_pivot := PySem.W.mg_of X G a_with_pivot,
    a_cleared := f_cleared,
    d_cleared := _,
    F_cleared := F_cleared,
    b_cleared := b_cleared,
    g_cleared := PySem.W.mg_of X G a_cleared,
    a_solved := f_solved,
    d_solved := _,
    F_solved := F_solved,
    b_solved := b_solved,
    g_solved := PySem.W.mg_of X G a_solved,
    a_is_map := f_is_map,
    d_is_map := _,
    F_is_map := F_is_map,
    b_is_map := b_is_map,
    g_is_map := PySem.W.mg_of X G a_is_map,
    a_Turns_init := f_Turns_init,
    d_Turns_init := _,
    F_Turns_init := F_Turns_init,
    b_Turns_init := b_Turns_init,
    a_Turns_len := f_Turns_len,
    d_Turns_len := _,
    F_Turns_len := F_Turns_len,
    b_Turns_len := b_Turns_len,
    a_check_signs := f_check_signs,
    d_check_signs := _,
    F_check_signs := F_check_signs,
    b_check_signs := b_check_signs,
    g_check_signs := PySem.W.mg_of X G a_check_signs,
    a_begin_of := f_begin_of,
    d_begin_of := _,
    F_begin_of := F_begin_of,
    b_begin_of := b_begin_of,
    g_begin_of := PySem.W.mg_of X G a_begin_of,
    a_then := f_then,
    d_then := _,
    F_then := F_then,
    b_then := b_then,
    g_then := PySem.W.mg_of X G a_then,
    a_has_met := f_has_met,
    d_has_met := _,
    F_has_met := F_has_met,
    b_has_met := b_has_met,
    g_has_met := PySem.W.mg_of X G a_has_met,
    a_map_of := f_map_of,
    d_map_of := _,
    F_map_of := F_map_of,
    b_map_of := b_map_of,
    g_map_of := PySem.W.mg_of X G a_map_of,
    a_found_from := f_found_from,
    d_found_from := _,
    F_found_from := F_found_from,
    b_found_from := b_found_from,
    g_found_from := PySem.W.mg_of X G a_found_from,
    a_maps_of := f_maps_of,
    d_maps_of := _,
    F_maps_of := F_maps_of,
    b_maps_of := b_maps_of,
    g_maps_of := PySem.W.mg_of X G a_maps_of,
    cc_maps_of := cc_maps_of,
    P_maps_of := P_maps_of,
    tb_maps_of := hB (cc_maps_of, P_maps_of) List.mem_cons_self,
    tm_maps_of := List.mem_cons_self,
    tu_maps_of := by show ∀ p ∈ ([(P_maps_of, (("maps_of" : Str) ++ (".<locals>." : Str)) ++ ("<lambda>" : Str))] : List (Addr × Str)), _; exact (List.forall_mem_cons.mpr ⟨fun _ => rfl, (fun _ h => nomatch h)⟩),
    a_gone_on := f_gone_on,
    d_gone_on := _,
    F_gone_on := F_gone_on,
    b_gone_on := b_gone_on,
    g_gone_on := PySem.W.mg_of X G a_gone_on,
    a_map_counts := f_map_counts,
    d_map_counts := _,
    F_map_counts := F_map_counts,
    b_map_counts := b_map_counts,
    g_map_counts := PySem.W.mg_of X G a_map_counts,
    a_blocks := f_blocks,
    d_blocks := _,
    F_blocks := F_blocks,
    b_blocks := b_blocks,
    g_blocks := PySem.W.mg_of X G a_blocks,
    a_NeverMeets_init := f_NeverMeets_init,
    d_NeverMeets_init := _,
    F_NeverMeets_init := F_NeverMeets_init,
    b_NeverMeets_init := b_NeverMeets_init,
    a_once_shares := f_once_shares,
    d_once_shares := _,
    F_once_shares := F_once_shares,
    b_once_shares := b_once_shares,
    g_once_shares := PySem.W.mg_of X G a_once_shares,
    a_read_once := f_read_once,
    d_read_once := _,
    F_read_once := F_read_once,
    b_read_once := b_read_once,
    g_read_once := PySem.W.mg_of X G a_read_once,
    a__law_well := f__law_well,
    d__law_well := _,
    F__law_well := F__law_well,
    b__law_well := b__law_well,
    g__law_well := PySem.W.mg_of X G a__law_well,
    a__law_draw := f__law_draw,
    d__law_draw := _,
    F__law_draw := F__law_draw,
    b__law_draw := b__law_draw,
    g__law_draw := PySem.W.mg_of X G a__law_draw,
    a__law_one := f__law_one,
    d__law_one := _,
    F__law_one := F__law_one,
    b__law_one := b__law_one,
    g__law_one := PySem.W.mg_of X G a__law_one,
    a__law_map := f__law_map,
    d__law_map := _,
    F__law_map := F__law_map,
    b__law_map := b__law_map,
    g__law_map := PySem.W.mg_of X G a__law_map,
    a__law_turns := f__law_turns,
    d__law_turns := _,
    F__law_turns := F__law_turns,
    b__law_turns := b__law_turns,
    g__law_turns := PySem.W.mg_of X G a__law_turns,
    a__law_told := f__law_told,
    d__law_told := _,
    F__law_told := F__law_told,
    b__law_told := b__law_told,
    g__law_told := PySem.W.mg_of X G a__law_told,
    a__law_mixed := f__law_mixed,
    d__law_mixed := _,
    F__law_mixed := F__law_mixed,
    b__law_mixed := b__law_mixed,
    g__law_mixed := PySem.W.mg_of X G a__law_mixed,
    a__law_idle_right := f__law_idle_right,
    d__law_idle_right := _,
    F__law_idle_right := F__law_idle_right,
    b__law_idle_right := b__law_idle_right,
    g__law_idle_right := PySem.W.mg_of X G a__law_idle_right,
    a_law := f_law,
    d_law := _,
    F_law := F_law,
    b_law := b_law,
    g_law := PySem.W.mg_of X G a_law,
    C_Share := C_Share,
    cl_Share := ⟨pg_Share, hd_Share, po_Share, sa_Share⟩,
    g_Share := PySem.W.mg_of X G aC_Share,
    mk_Share := ⟨mk_Share, a_Share_init, i_Share_init, kc_Share⟩,
    ic_Share := ⟨⟨pg_Share, hd_Share, po_Share, sa_Share⟩, ha_Share, hn_Share, ht_Share, hm_Share, kit_same⟩,
    C_Turns := C_Turns,
    cl_Turns := ⟨pg_Turns, hd_Turns, po_Turns, sa_Turns⟩,
    g_Turns := PySem.W.mg_of X G aC_Turns,
    mk_Turns := ⟨mk_Turns, a_Turns_init, i_Turns_init, kc_Turns⟩,
    C_DrawError := C_DrawError,
    g_DrawError := PySem.W.mg_of X G aC_DrawError,
    base_DrawError := ⟨bg_DrawError, br_DrawError, bt_DrawError, bi_DrawError⟩,
    C_NeverMeets := C_NeverMeets,
    g_NeverMeets := PySem.W.mg_of X G aC_NeverMeets,
    oex_NeverMeets := ⟨⟨_, _, _, _, _, _, _, _, _, _, _, _, _, _, _, xL_NeverMeets, xv_NeverMeets⟩, xsa_NeverMeets, xec_NeverMeets, xty_NeverMeets, xkc_NeverMeets⟩,
    ii_NeverMeets := a_NeverMeets_init,
    tf_NeverMeets := xtf_NeverMeets,
    xf_NeverMeets := ⟨xga_NeverMeets, xgg_NeverMeets, xec_NeverMeets, xhd_NeverMeets⟩,
    nf_NeverMeets := xnf_NeverMeets,
    te_NeverMeets := exm_self xec_NeverMeets xic_NeverMeets xty_NeverMeets xsc_NeverMeets,
    C_TooMany := C_TooMany,
    g_TooMany := PySem.W.mg_of X G aC_TooMany,
    xp_TooMany := xp_TooMany,
    xk_TooMany := xkc_TooMany,
    xe_TooMany := xec_TooMany,
    xt_TooMany := xty_TooMany,
    te_TooMany := exm_self xec_TooMany xic_TooMany xty_TooMany xsc_TooMany,
    m_Share_eq := ⟨a_Share_eq, i_Share_eq, k_Share_eq⟩,
    m_Turns_len := ⟨a_Turns_len, i_Turns_len, k_Turns_len⟩,
    na_Share_bottom := na_Share_bottom,
    na_Share_top := na_Share_top,
    na_Turns_many := na_Turns_many,
    na_Turns_maps := na_Turns_maps,
    z_abs := PySem.W.mg_none_of X G z_abs,
    z_all := PySem.W.mg_none_of X G z_all,
    z_bool := PySem.W.mg_none_of X G z_bool,
    z_enumerate := PySem.W.mg_none_of X G z_enumerate,
    z_int := PySem.W.mg_none_of X G z_int,
    z_isinstance := PySem.W.mg_none_of X G z_isinstance,
    z_len := PySem.W.mg_none_of X G z_len,
    z_list := PySem.W.mg_none_of X G z_list,
    z_range := PySem.W.mg_none_of X G z_range,
    z_set := PySem.W.mg_none_of X G z_set,
    z_sorted := PySem.W.mg_none_of X G z_sorted,
    z_sum := PySem.W.mg_none_of X G z_sum,
    z_tuple := PySem.W.mg_none_of X G z_tuple,
    z_zip := PySem.W.mg_none_of X G z_zip,
    t_MOST_MAPS := t_MOST_MAPS,
    c_MOST_MAPS := PySem.W.mg_of X G g_MOST_MAPS,
    t_MOST_PLACES := t_MOST_PLACES,
    c_MOST_PLACES := PySem.W.mg_of X G g_MOST_PLACES,
    t_MOST_SIGNS := t_MOST_SIGNS,
    c_MOST_SIGNS := PySem.W.mg_of X G g_MOST_SIGNS }
  exact ⟨_, [(cc_maps_of, P_maps_of)], spLawT K, (List.forall_mem_cons.mpr ⟨hTab _ ts_maps_of, (fun _ h => nomatch h)⟩), (List.forall_mem_cons.mpr ⟨np_maps_of, (fun _ h => nomatch h)⟩), (List.forall_mem_cons.mpr ⟨PySem.W.codeHd_of_K X hd_maps_of, (fun _ h => nomatch h)⟩), fun s u => (by exact .of_eq rfl), fun H a ns hl _ hH hS => ⟨a, ns, rfl, hS, hl, (by show ∀ p ∈ ([(P_maps_of, (("maps_of" : Str) ++ (".<locals>." : Str)) ++ ("<lambda>" : Str))] : List (Addr × Str)), _; exact (List.forall_mem_cons.mpr ⟨hH (cc_maps_of, P_maps_of) List.mem_cons_self, (fun _ h => nomatch h)⟩)), fun _ => rfl⟩, fun base _ _ hB => (letI b : LawBase := ⟨base⟩; ok_law (Tb b hB))⟩
theorem walk {l : PySem.W.OpenLaw} {q : Program} {loose : List Str} {XP : (Str → Option Value) → Heap → Prop} {YP : World → Heap → Prop} {d : DefRec} {K : Params → PySem.W.Frag} (hn : l.most = some 63) (hdf : d.params.defaults = [])
    (hY : ∀ (w : World) (h : Heap), YP w h → (K w.params).In h)
    (F : ∀ (w : World) (mg : Str → Option Value) (fa : Addr) (h : Heap), YP w h → (K w.params).In h → h.Ns mainGlobals mg → mg d.name = some (.ref fa) → LamX.LawAtS l w (K w.params) CX0 9 63 "_law_script" mg fa h) :
    PySem.W.WalkO q loose XP YP l.row.toRowW d [] (fun f vs => PySem.call f vs) :=
  LamX.walk_ofTs (n := 63) (k := 9) (x := "_law_script") (CX := fun _ => CX0) hn (by decide) hdf ⟨rfl, by decide, by decide⟩ hY F fun _ _ _ _ _ z => z
end K68
open PySem PySem.W PyProof.Rows
set_option maxRecDepth 100000 in
set_option maxHeartbeats 0 in
theorem PySem.Challenge.cw_elderdraw_k68_whole_signs_more_than_once_holds : PySem.Challenge.rw_elderdraw_k68_whole_signs_more_than_once.Holds := by
  w_on; o_law; k_head; (case hw => w_witness2)
  k_fill
  refine K68.walk (l := PySem.Challenge.rw_elderdraw_k68_whole_signs_more_than_once) rfl rfl (fun w h Y => PySem.W.km_in_of Y) ?F
  case F =>
    intro w mg fa h Y KX G hmg
    refine' K68.all_mk KX G hmg (PySem.W.km_tabs_of Y) ?aC_Share ?aC_Turns ?aC_DrawError ?aC_NeverMeets ?aC_TooMany ?a_is_whole ?l_is_whole ?c_is_whole ?k_is_whole ?a_is_between ?l_is_between ?c_is_between ?k_is_between ?a_common ?l_common ?c_common ?k_common ?a_Share_init ?i_Share_init ?l_Share_init ?dl_Share_init ?c_Share_init ?k_Share_init ?a_Share_eq ?i_Share_eq ?l_Share_eq ?c_Share_eq ?k_Share_eq ?a_with_pivot ?l_with_pivot ?c_with_pivot ?k_with_pivot ?a_cleared ?l_cleared ?c_cleared ?k_cleared ?a_solved ?l_solved ?c_solved ?k_solved ?a_is_map ?l_is_map ?c_is_map ?k_is_map ?a_Turns_init ?i_Turns_init ?l_Turns_init ?c_Turns_init ?k_Turns_init ?a_Turns_len ?i_Turns_len ?l_Turns_len ?c_Turns_len ?k_Turns_len ?a_check_signs ?l_check_signs ?c_check_signs ?k_check_signs ?a_begin_of ?l_begin_of ?c_begin_of ?k_begin_of ?a_then ?l_then ?c_then ?k_then ?a_has_met ?l_has_met ?c_has_met ?k_has_met ?a_map_of ?l_map_of ?c_map_of ?k_map_of ?a_found_from ?l_found_from ?c_found_from ?k_found_from ?a_maps_of ?l_maps_of ?lc_maps_of ?tp_maps_of ?hd_maps_of ?np_maps_of ?ts_maps_of ?c_maps_of ?k_maps_of ?a_gone_on ?l_gone_on ?c_gone_on ?k_gone_on ?a_map_counts ?l_map_counts ?c_map_counts ?k_map_counts ?a_blocks ?l_blocks ?c_blocks ?k_blocks ?a_NeverMeets_init ?i_NeverMeets_init ?l_NeverMeets_init ?c_NeverMeets_init ?k_NeverMeets_init ?a_once_shares ?l_once_shares ?c_once_shares ?k_once_shares ?a_read_once ?l_read_once ?c_read_once ?k_read_once ?a__law_well ?l__law_well ?c__law_well ?k__law_well ?a__law_draw ?l__law_draw ?c__law_draw ?k__law_draw ?a__law_one ?l__law_one ?c__law_one ?k__law_one ?a__law_map ?l__law_map ?c__law_map ?k__law_map ?a__law_turns ?l__law_turns ?c__law_turns ?k__law_turns ?a__law_told ?l__law_told ?c__law_told ?k__law_told ?a__law_mixed ?l__law_mixed ?c__law_mixed ?k__law_mixed ?a__law_idle_right ?l__law_idle_right ?c__law_idle_right ?k__law_idle_right ?a_law ?l_law ?c_law ?k_law ?pg_Share ?hd_Share ?po_Share ?sa_Share ?kc_Share ?mk_Share ?ha_Share ?hn_Share ?ht_Share ?hm_Share ?pg_Turns ?hd_Turns ?po_Turns ?sa_Turns ?kc_Turns ?mk_Turns ?bg_DrawError ?br_DrawError ?bt_DrawError ?bi_DrawError ?xL_NeverMeets ?xv_NeverMeets ?xsa_NeverMeets ?xec_NeverMeets ?xty_NeverMeets ?xkc_NeverMeets ?xtf_NeverMeets ?xga_NeverMeets ?xgg_NeverMeets ?xhd_NeverMeets ?xnf_NeverMeets ?xic_NeverMeets ?xsc_NeverMeets ?xp_TooMany ?xkc_TooMany ?xec_TooMany ?xty_TooMany ?xic_TooMany ?xsc_TooMany ?na_Share_bottom ?na_Share_top ?na_Turns_many ?na_Turns_maps ?z_abs ?z_all ?z_bool ?z_enumerate ?z_int ?z_isinstance ?z_len ?z_list ?z_range ?z_set ?z_sorted ?z_sum ?z_tuple ?z_zip ?g_MOST_MAPS ?g_MOST_PLACES ?g_MOST_SIGNS
    (case aC_Share => k_is)
    (case aC_Turns => k_is)
    (case aC_DrawError => k_is)
    (case aC_NeverMeets => k_is)
    (case aC_TooMany => k_is)
    (case a_is_whole => k_is)
    (case l_is_whole => k_is)
    (case c_is_whole => k_is)
    (case k_is_whole => k_is)
    (case a_is_between => k_is)
    (case l_is_between => k_is)
    (case c_is_between => k_is)
    (case k_is_between => k_is)
    (case a_common => k_is)
    (case l_common => k_is)
    (case c_common => k_is)
    (case k_common => k_is)
    (case a_Share_init => k_is)
    (case i_Share_init => k_is)
    (case l_Share_init => k_is)
    (case dl_Share_init => k_is)
    (case c_Share_init => k_is)
    (case k_Share_init => k_is)
    (case a_Share_eq => k_is)
    (case i_Share_eq => k_is)
    (case l_Share_eq => k_is)
    (case c_Share_eq => k_is)
    (case k_Share_eq => k_is)
    (case a_with_pivot => k_is)
    (case l_with_pivot => k_is)
    (case c_with_pivot => k_is)
    (case k_with_pivot => k_is)
    (case a_cleared => k_is)
    (case l_cleared => k_is)
    (case c_cleared => k_is)
    (case k_cleared => k_is)
    (case a_solved => k_is)
    (case l_solved => k_is)
    (case c_solved => k_is)
    (case k_solved => k_is)
    (case a_is_map => k_is)
    (case l_is_map => k_is)
    (case c_is_map => k_is)
    (case k_is_map => k_is)
    (case a_Turns_init => k_is)
    (case i_Turns_init => k_is)
    (case l_Turns_init => k_is)
    (case c_Turns_init => k_is)
    (case k_Turns_init => k_is)
    (case a_Turns_len => k_is)
    (case i_Turns_len => k_is)
    (case l_Turns_len => k_is)
    (case c_Turns_len => k_is)
    (case k_Turns_len => k_is)
    (case a_check_signs => k_is)
    (case l_check_signs => k_is)
    (case c_check_signs => k_is)
    (case k_check_signs => k_is)
    (case a_begin_of => k_is)
    (case l_begin_of => k_is)
    (case c_begin_of => k_is)
    (case k_begin_of => k_is)
    (case a_then => k_is)
    (case l_then => k_is)
    (case c_then => k_is)
    (case k_then => k_is)
    (case a_has_met => k_is)
    (case l_has_met => k_is)
    (case c_has_met => k_is)
    (case k_has_met => k_is)
    (case a_map_of => k_is)
    (case l_map_of => k_is)
    (case c_map_of => k_is)
    (case k_map_of => k_is)
    (case a_found_from => k_is)
    (case l_found_from => k_is)
    (case c_found_from => k_is)
    (case k_found_from => k_is)
    (case a_maps_of => k_is)
    (case l_maps_of => k_is)
    (case lc_maps_of => k_is)
    (case tp_maps_of => rfl)
    (case hd_maps_of => kernel_rfl)
    (case np_maps_of => kernel_rfl)
    (case ts_maps_of => k_mem)
    (case c_maps_of => k_is)
    (case k_maps_of => k_is)
    (case a_gone_on => k_is)
    (case l_gone_on => k_is)
    (case c_gone_on => k_is)
    (case k_gone_on => k_is)
    (case a_map_counts => k_is)
    (case l_map_counts => k_is)
    (case c_map_counts => k_is)
    (case k_map_counts => k_is)
    (case a_blocks => k_is)
    (case l_blocks => k_is)
    (case c_blocks => k_is)
    (case k_blocks => k_is)
    (case a_NeverMeets_init => k_is)
    (case i_NeverMeets_init => k_is)
    (case l_NeverMeets_init => k_is)
    (case c_NeverMeets_init => k_is)
    (case k_NeverMeets_init => k_is)
    (case a_once_shares => k_is)
    (case l_once_shares => k_is)
    (case c_once_shares => k_is)
    (case k_once_shares => k_is)
    (case a_read_once => k_is)
    (case l_read_once => k_is)
    (case c_read_once => k_is)
    (case k_read_once => k_is)
    (case a__law_well => k_is)
    (case l__law_well => k_is)
    (case c__law_well => k_is)
    (case k__law_well => k_is)
    (case a__law_draw => k_is)
    (case l__law_draw => k_is)
    (case c__law_draw => k_is)
    (case k__law_draw => k_is)
    (case a__law_one => k_is)
    (case l__law_one => k_is)
    (case c__law_one => k_is)
    (case k__law_one => k_is)
    (case a__law_map => k_is)
    (case l__law_map => k_is)
    (case c__law_map => k_is)
    (case k__law_map => k_is)
    (case a__law_turns => k_is)
    (case l__law_turns => k_is)
    (case c__law_turns => k_is)
    (case k__law_turns => k_is)
    (case a__law_told => k_is)
    (case l__law_told => k_is)
    (case c__law_told => k_is)
    (case k__law_told => k_is)
    (case a__law_mixed => k_is)
    (case l__law_mixed => k_is)
    (case c__law_mixed => k_is)
    (case k__law_mixed => k_is)
    (case a__law_idle_right => k_is)
    (case l__law_idle_right => k_is)
    (case c__law_idle_right => k_is)
    (case k__law_idle_right => k_is)
    (case a_law => k_is)
    (case l_law => k_is)
    (case c_law => k_is)
    (case k_law => k_is)
    (case pg_Share => k_is)
    (case hd_Share => k_is)
    (case po_Share => k_is)
    (case sa_Share => k_is)
    (case kc_Share => k_is)
    (case mk_Share => k_is)
    (case ha_Share => k_is)
    (case hn_Share => k_is)
    (case ht_Share => k_is)
    (case hm_Share => k_is)
    (case pg_Turns => k_is)
    (case hd_Turns => k_is)
    (case po_Turns => k_is)
    (case sa_Turns => k_is)
    (case kc_Turns => k_is)
    (case mk_Turns => k_is)
    (case bg_DrawError => k_is)
    (case br_DrawError => k_is)
    (case bt_DrawError => k_is)
    (case bi_DrawError => k_is)
    (case xL_NeverMeets => k_is)
    (case xv_NeverMeets => decide +kernel)
    (case xsa_NeverMeets => k_is)
    (case xec_NeverMeets => k_is)
    (case xty_NeverMeets => k_is)
    (case xkc_NeverMeets => k_is)
    (case xtf_NeverMeets => k_is)
    (case xga_NeverMeets => k_is)
    (case xgg_NeverMeets => k_is)
    (case xhd_NeverMeets => k_is)
    (case xnf_NeverMeets => k_is)
    (case xic_NeverMeets => k_is)
    (case xsc_NeverMeets => first | rfl | k_is)
    (case xp_TooMany => k_exc)
    (case xkc_TooMany => k_is)
    (case xec_TooMany => k_is)
    (case xty_TooMany => k_is)
    (case xic_TooMany => k_is)
    (case xsc_TooMany => first | rfl | k_is)
    (case na_Share_bottom => k_is)
    (case na_Share_top => k_is)
    (case na_Turns_many => k_is)
    (case na_Turns_maps => k_is)
    (case z_abs => k_is)
    (case z_all => k_is)
    (case z_bool => k_is)
    (case z_enumerate => k_is)
    (case z_int => k_is)
    (case z_isinstance => k_is)
    (case z_len => k_is)
    (case z_list => k_is)
    (case z_range => k_is)
    (case z_set => k_is)
    (case z_sorted => k_is)
    (case z_sum => k_is)
    (case z_tuple => k_is)
    (case z_zip => k_is)
    (case g_MOST_MAPS => k_is)
    (case g_MOST_PLACES => k_is)
    (case g_MOST_SIGNS => k_is)

