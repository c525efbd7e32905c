import PyProof.Rows.All
import Wide.All
import OpenK.AllK
import Wide.FinOn
import HandS.ForMost
import HandS.IsInst
import HandS.SetFor
import HandS.Conv
import HandS.Wide
import HandS.OwnEq
import HandS.Style
import HandS.Codes
import HandS.TupMul
import HandS.Walk
import PySem.Challenge.RW_elderdraw_k72_turns_as_texts
set_option Elab.async false
set_option linter.all false
set_option maxRecDepth 100000
set_option maxHeartbeats 2000000
namespace El
open PySem PySem.Spec L2

/-! ### heaps -/
def Ex (H H' : Hp) : Prop := ∀ a o, H a = some o → H' a = some o
theorem Ex.refl (H : Hp) : Ex H H := fun _ _ h => h
theorem Ex.trans {H H1 H2 : Hp} (a : Ex H H1) (b : Ex H1 H2) : Ex H H2 := fun x o h => b x o (a x o h)
theorem Ex.new {H : Hp} {p : Addr} {o : HO} (h : H p = none) : Ex H (upd H p o) := fun a u e => by
  rw [upd_ne (ne_of_none e h)]
  exact e
theorem Ex.mut {H H' : Hp} {p : Addr} {o : HO} (e : Ex H H') (h : H p = none) : Ex H (upd H' p o) := fun a u ha => by
  rw [upd_ne (ne_of_none ha h)]
  exact e a u ha
theorem Ex.free {H H' : Hp} (e : Ex H H') {p : Addr} (h : H' p = none) : H p = none := by
  cases q : H p with
  | none => rfl
  | some o => rw [e p o q] at h; cases h
theorem Ex.both {F H : Hp} {p : Addr} {o : HO} (e : Ex F H) : Ex (upd F p o) (upd H p o) := fun a u h => by
  by_cases q : a = p
  · subst q; rw [upd_same] at h ⊢; exact h
  · rw [upd_ne q] at h ⊢; exact e a u h
/-- growth: F the frozen part, H all; M may be changed -/
structure Gr (M : Addr → Prop) (F H F' H' : Hp) : Prop where
  ff : Ex F F'
  fh : Ex F' H'
  hh : ∀ b o, ¬ M b → H b = some o → H' b = some o
  nw : ∀ b, ¬ M b → H b ≠ none → F b = none → F' b = none
  dm : ∀ b, H b ≠ none → H' b ≠ none
abbrev M0 : Addr → Prop := fun _ => False
abbrev M1 (a : Addr) : Addr → Prop := fun b => b = a
theorem Gr.refl {M : Addr → Prop} {F H : Hp} (e : Ex F H) : Gr M F H F H := ⟨Ex.refl F, e, fun _ _ _ h => h, fun _ _ _ h => h, fun _ h => h⟩
theorem Gr.trans {M : Addr → Prop} {F H F1 H1 F2 H2 : Hp} (a : Gr M F H F1 H1) (b : Gr M F1 H1 F2 H2) : Gr M F H F2 H2 :=
  ⟨a.ff.trans b.ff, b.fh, fun c o m h => b.hh c o m (a.hh c o m h), fun c m h n => b.nw c m (a.dm c h) (a.nw c m h n), fun c h => b.dm c (a.dm c h)⟩
theorem Gr.mono {M M' : Addr → Prop} {F H F1 H1 : Hp} (a : Gr M F H F1 H1) (m : ∀ b, M b → M' b) : Gr M' F H F1 H1 :=
  ⟨a.ff, a.fh, fun c o n h => a.hh c o (fun z => n (m c z)) h, fun c n h => a.nw c (fun z => n (m c z)) h, a.dm⟩
theorem Gr.up {M : Addr → Prop} {F H F1 H1 : Hp} (a : Gr M0 F H F1 H1) : Gr M F H F1 H1 := a.mono fun _ z => z.elim
theorem Gr.hx {F H F1 H1 : Hp} (a : Gr M0 F H F1 H1) : Ex H H1 := fun b o h => a.hh b o (fun z => z) h
/-- a new thing, frozen -/
theorem Gr.new {M : Addr → Prop} {F H : Hp} {p : Addr} {o : HO} (e : Ex F H) (h : H p = none) : Gr M F H (upd F p o) (upd H p o) where
  ff := Ex.new (e.free h)
  fh := e.both
  hh := fun b u _ q => Ex.new h b u q
  nw := fun b _ q n => by
    by_cases z : b = p
    · subst z; exact absurd h q
    · rw [upd_ne z]; exact n
  dm := fun b q => by
    by_cases z : b = p
    · subst z; rw [upd_same]; exact fun x => nomatch x
    · rw [upd_ne z]; exact q
/-- a new thing that may change -/
theorem Gr.loc {M : Addr → Prop} {F H : Hp} {p : Addr} {o : HO} (e : Ex F H) (h : H p = none) : Gr M F H F (upd H p o) where
  ff := Ex.refl F
  fh := e.mut (e.free h)
  hh := fun b u _ q => Ex.new h b u q
  nw := fun b _ q n => n
  dm := fun b q => by
    by_cases z : b = p
    · subst z; rw [upd_same]; exact fun x => nomatch x
    · rw [upd_ne z]; exact q
/-- a change of what stands outside of F -/
theorem Gr.set {M : Addr → Prop} {F H : Hp} {p : Addr} {o : HO} (e : Ex F H) (h : F p = none) (m : M p) : Gr M F H F (upd H p o) where
  ff := Ex.refl F
  fh := e.mut h
  hh := fun b u n q => by
    have z : b ≠ p := fun z => n (z ▸ m)
    rw [upd_ne z]; exact q
  nw := fun b _ q n => n
  dm := fun b q => by
    by_cases z : b = p
    · subst z; rw [upd_same]; exact fun x => nomatch x
    · rw [upd_ne z]; exact q
/-- behind an entry (F₀, H₀), a change of what is younger -/
theorem Gr.set' {M : Addr → Prop} {F0 H0 F H : Hp} {p : Addr} {o : HO} (g : Gr M F0 H0 F H) (h : F p = none) (n : H0 p = none ∨ M p) : Gr M F0 H0 F (upd H p o) where
  ff := g.ff
  fh := g.fh.mut h
  hh := fun b u m q => by
    have z : b ≠ p := fun z => by
      subst z
      rcases n with n | n
      · rw [n] at q; cases q
      · exact m n
    rw [upd_ne z]; exact g.hh b u m q
  nw := g.nw
  dm := fun b q => by
    by_cases z : b = p
    · subst z; rw [upd_same]; exact fun x => nomatch x
    · rw [upd_ne z]; exact g.dm b q
/-- a thing that may change is frozen from here on -/
theorem Gr.frz {M : Addr → Prop} {F0 H0 F H : Hp} {p : Addr} {o : HO} (g : Gr M F0 H0 F H) (h : H p = some o) (n : F0 p = none) (n2 : H0 p = none ∨ M p) : Gr M F0 H0 (upd F p o) H where
  ff := fun b u q => by
    rw [upd_ne (ne_of_none q n)]; exact g.ff b u q
  fh := fun b u q => by
    by_cases z : b = p
    · subst z; rw [upd_same] at q; cases q; exact h
    · rw [upd_ne z] at q; exact g.fh b u q
  hh := g.hh
  nw := fun b w q m => by
    have z : b ≠ p := fun z => by
      subst z
      rcases n2 with n2 | n2
      · exact q n2
      · exact w n2
    rw [upd_ne z]; exact g.nw b w q m
  dm := g.dm
theorem Gr.nn {F H F' H' : Hp} {p : Addr} {o : HO} (g : Gr M0 F H F' H') (h : H p = some o) (n : F p = none) : F' p = none := g.nw p (fun z => z) (by rw [h]; exact fun z => nomatch z) n
theorem Ex.frz {F H : Hp} {p : Addr} {o : HO} (e : Ex F H) (h : H p = some o) (n : F p = none) : Ex F (upd F p o) := fun b u q => by
  rw [upd_ne (ne_of_none q n)]; exact q

/-! ### what a value stands for -/
abbrev Rp (α : Type) := Hp → V → α → Prop
class Mn {α : Type} (R : Rp α) : Prop where
  mono : ∀ {H H' : Hp} {v : V} {x : α}, Ex H H' → R H v x → R H' v x
def rInt : Rp Int := fun _ v i => v = .int i
def rNat : Rp Nat := fun _ v i => v = .int (i : Int)
def rBl : Rp Bool := fun _ v i => v = .bl i
def rStr : Rp Str := fun _ v i => v = .str i
def rNon : Rp Unit := fun _ v _ => v = .non
def rLst {α : Type} (R : Rp α) : Rp (List α) := fun H v xs => ∃ a vs, v = .ref a ∧ H a = some (.lst vs) ∧ Paired (R H) vs xs
def rTup {α : Type} (R : Rp α) : Rp (List α) := fun H v xs => ∃ a vs, v = .ref a ∧ H a = some (.tup vs) ∧ Paired (R H) vs xs
def rPr {α β : Type} (R : Rp α) (S : Rp β) : Rp (α × β) := fun H v p => ∃ a x y, v = .ref a ∧ H a = some (.tup [x, y]) ∧ R H x p.1 ∧ S H y p.2
def rOpt {α : Type} (R : Rp α) : Rp (Option α) := fun H v x => match x with
  | none => v = .non
  | some y => R H v y
instance : Mn rInt := ⟨fun _ h => h⟩
instance : Mn rNat := ⟨fun _ h => h⟩
instance : Mn rBl := ⟨fun _ h => h⟩
instance : Mn rStr := ⟨fun _ h => h⟩
instance : Mn rNon := ⟨fun _ h => h⟩
theorem Paired.up {α : Type} {R : Rp α} [m : Mn R] {H H' : Hp} (e : Ex H H') {vs : List V} {xs : List α} (h : Paired (R H) vs xs) : Paired (R H') vs xs := L2.Paired.mapP h fun _ _ q => m.mono e q
instance {α : Type} {R : Rp α} [Mn R] : Mn (rLst R) := ⟨fun e ⟨a, vs, h1, h2, h3⟩ => ⟨a, vs, h1, e _ _ h2, Paired.up e h3⟩⟩
instance {α : Type} {R : Rp α} [Mn R] : Mn (rTup R) := ⟨fun e ⟨a, vs, h1, h2, h3⟩ => ⟨a, vs, h1, e _ _ h2, Paired.up e h3⟩⟩
instance {α β : Type} {R : Rp α} {S : Rp β} [m : Mn R] [n : Mn S] : Mn (rPr R S) := ⟨fun e ⟨a, x, y, h1, h2, h3, h4⟩ => ⟨a, x, y, h1, e _ _ h2, m.mono e h3, n.mono e h4⟩⟩
instance {α : Type} {R : Rp α} [m : Mn R] : Mn (rOpt R) := ⟨fun {H H' v x} e h => by
  cases x with
  | none => exact h
  | some y => exact m.mono e h⟩
theorem Paired.get {α β : Type} {F : α → β → Prop} : ∀ {as : List α} {bs : List β} {i : Nat} {b : β}, Paired F as bs → bs[i]? = some b → ∃ a, as[i]? = some a ∧ F a b
  | _, _, _, _, .nil, e => by simp at e
  | _, _, 0, _, .cons r _, e => by simp at e; subst e; exact ⟨_, rfl, r⟩
  | _, _, i + 1, _, .cons _ t, e => by
    obtain ⟨a, h1, h2⟩ := Paired.get t (i := i) (by simpa using e)
    exact ⟨a, by simpa using h1, h2⟩
theorem Paired.getL {α β : Type} {F : α → β → Prop} : ∀ {as : List α} {bs : List β} {i : Nat} {a : α}, Paired F as bs → as[i]? = some a → ∃ b, bs[i]? = some b ∧ F a b
  | _, _, _, _, .nil, e => by simp at e
  | _, _, 0, _, .cons r _, e => by simp at e; subst e; exact ⟨_, rfl, r⟩
  | _, _, i + 1, _, .cons _ t, e => by
    obtain ⟨a, h1, h2⟩ := Paired.getL t (i := i) (by simpa using e)
    exact ⟨a, by simpa using h1, h2⟩
theorem Paired.app {α β : Type} {F : α → β → Prop} : ∀ {as cs : List α} {bs ds : List β}, Paired F as bs → Paired F cs ds → Paired F (as ++ cs) (bs ++ ds)
  | _, _, _, _, .nil, h => h
  | _, _, _, _, .cons r t, h => .cons r (Paired.app t h)
theorem Paired.take {α β : Type} {F : α → β → Prop} : ∀ {as : List α} {bs : List β} (n : Nat), Paired F as bs → Paired F (as.take n) (bs.take n)
  | _, _, 0, _ => .nil
  | _, _, _ + 1, .nil => .nil
  | _, _, n + 1, .cons r t => .cons r (Paired.take n t)
theorem Paired.drop {α β : Type} {F : α → β → Prop} : ∀ {as : List α} {bs : List β} (n : Nat), Paired F as bs → Paired F (as.drop n) (bs.drop n)
  | _, _, 0, h => h
  | _, _, _ + 1, .nil => .nil
  | _, _, n + 1, .cons r t => Paired.drop n t
theorem Paired.rev {α β : Type} {F : α → β → Prop} : ∀ {as : List α} {bs : List β}, Paired F as bs → Paired F as.reverse bs.reverse
  | _, _, .nil => .nil
  | _, _, .cons r t => by
    rw [List.reverse_cons, List.reverse_cons]
    exact Paired.app (Paired.rev t) (.cons r .nil)
theorem Paired.set {α β : Type} {F : α → β → Prop} {a : α} {b : β} (r : F a b) : ∀ {as : List α} {bs : List β} (n : Nat), Paired F as bs → Paired F (as.set n a) (bs.set n b)
  | _, _, _, .nil => .nil
  | _, _, 0, .cons _ t => .cons r t
  | _, _, n + 1, .cons q t => .cons q (Paired.set r n t)
/-- ints as they stand -/
theorem ints_paired {H : Hp} : ∀ {vs : List V} {ns : List Int}, Paired (rInt H) vs ns → vs = ns.map V.int
  | _, _, .nil => rfl
  | _, _, .cons r t => by rw [List.map_cons, ints_paired t, show _ = _ from r]
theorem paired_ints {H : Hp} : ∀ ns : List Int, Paired (rInt H) (ns.map V.int) ns
  | [] => .nil
  | n :: ns => .cons rfl (paired_ints ns)
theorem nats_paired {H : Hp} : ∀ {vs : List V} {ns : List Nat}, Paired (rNat H) vs ns → vs = (ns.map fun n : Nat => (n : Int)).map V.int
  | _, _, .nil => rfl
  | _, _, .cons r t => by rw [List.map_cons, List.map_cons, ← nats_paired t, show _ = _ from r]
theorem bls_paired {H : Hp} : ∀ {vs : List V} {ns : List Bool}, Paired (rBl H) vs ns → vs = ns.map V.bl
  | _, _, .nil => rfl
  | _, _, .cons r t => by rw [List.map_cons, ← bls_paired t, show _ = _ from r]
theorem strs_paired {H : Hp} : ∀ {vs : List V} {ns : List Str}, Paired (rStr H) vs ns → vs = ns.map V.str
  | _, _, .nil => rfl
  | _, _, .cons r t => by rw [List.map_cons, ← strs_paired t, show _ = _ from r]

/-! ### what evaluates to what -/
def Ev {α : Type} (R : Rp α) (te : TE) (σ : St) (F H : Hp) (x : α) : Prop :=
  ∀ F1 H1, Gr M0 F H F1 H1 → ∀ Q : VK, (∀ v F2 H2, Gr M0 F1 H1 F2 H2 → R F2 v x → Q v H2) → te σ H1 Q
def EvT (tt : TT) (σ : St) (F H : Hp) (b : Bool) : Prop :=
  ∀ F1 H1, Gr M0 F H F1 H1 → ∀ Q : Bool → Hp → Prop, (∀ F2 H2, Gr M0 F1 H1 F2 H2 → Q b H2) → tt σ H1 Q
def EvA (ta : TA) (σ : St) (F H : Hp) (P : Hp → List V → Prop) : Prop :=
  ∀ F1 H1, Gr M0 F H F1 H1 → ∀ Q : List V → Hp → Prop, (∀ vs F2 H2, Gr M0 F1 H1 F2 H2 → P F2 vs → Q vs H2) → ta σ H1 Q
section
variable {K : PySem.W.Frag} {σ : St} {F H F' H' : Hp} {ta tb tc te : TE} {t u : TT} {α β γ δ ε : Type} {R : Rp α} {S : Rp β} {T : Rp γ} {x : α} {y : β} {z : γ}
theorem Ev.mono (g : Gr M0 F H F' H') (h : Ev R te σ F H x) : Ev R te σ F' H' x := fun F1 H1 g1 Q q => h F1 H1 (g.trans g1) Q q
theorem EvT.mono {b : Bool} (g : Gr M0 F H F' H') (h : EvT t σ F H b) : EvT t σ F' H' b := fun F1 H1 g1 Q q => h F1 H1 (g.trans g1) Q q
theorem Ev.is {x' : α} (h : Ev R te σ F H x) (e : x = x') : Ev R te σ F H x' := e ▸ h
theorem EvT.is {b b' : Bool} (h : EvT t σ F H b) (e : b = b') : EvT t σ F H b' := e ▸ h
/-- another reading of the value -/
theorem Ev.as (h : Ev R te σ F H x) (c : ∀ F v, R F v x → S F v y) : Ev S te σ F H y := fun F1 H1 g Q q => h F1 H1 g Q fun v F2 H2 g2 r => q v F2 H2 g2 (c F2 v r)
theorem Ev.nat {n : Nat} (h : Ev rNat te σ F H n) : Ev rInt te σ F H (n : Int) := h
theorem Ev.toNat {n : Nat} (h : Ev rInt te σ F H (n : Int)) : Ev rNat te σ F H n := h
theorem ev_var {i : Nat} {v : V} (h : σ[i]? = some (some v)) (r : R F v x) (m : Mn R := by infer_instance) : Ev R (tVar i) σ F H x := fun F1 H1 g Q q => ⟨v, h, q v F1 H1 (.refl g.fh) (m.mono g.ff r)⟩
theorem ev_int {i : Int} : Ev rInt (tC (.int i)) σ F H i := fun F1 H1 g Q q => q _ F1 H1 (.refl g.fh) rfl
theorem ev_bl {i : Bool} : Ev rBl (tC (.bl i)) σ F H i := fun F1 H1 g Q q => q _ F1 H1 (.refl g.fh) rfl
theorem ev_str {i : Str} : Ev rStr (tC (.str i)) σ F H i := fun F1 H1 g Q q => q _ F1 H1 (.refl g.fh) rfl
theorem ev_non : Ev rNon (tC .non) σ F H () := fun F1 H1 g Q q => q _ F1 H1 (.refl g.fh) rfl
theorem ev_noneO : Ev (rOpt R) (tC .non) σ F H none := fun F1 H1 g Q q => q _ F1 H1 (.refl g.fh) rfl
theorem ev_someO (h : Ev R te σ F H x) : Ev (rOpt R) te σ F H (some x) := h
/-- operators of two ints -/
theorem ev_I0 {g : Int → Int → V} {i j : Int} (ha : Ev rInt ta σ F H i) (hb : Ev rInt tb σ F H j) (hz : ∀ F, R F (g i j) x) : Ev R (tOp (rI0 g) ta tb) σ F H x := fun F1 H1 g1 Q q =>
  ha F1 H1 g1 _ fun v F2 H2 g2 r => hb F2 H2 (g1.trans g2) _ fun w F3 H3 g3 r2 => ⟨i, j, r, r2, q _ F3 H3 (g2.trans g3) (hz F3)⟩
theorem ev_I {C : Int → Int → Prop} {g : Int → Int → V} {i j : Int} (ha : Ev rInt ta σ F H i) (hb : Ev rInt tb σ F H j) (hc : C i j) (hz : ∀ F, R F (g i j) x) : Ev R (tOp (rI C g) ta tb) σ F H x := fun F1 H1 g1 Q q =>
  ha F1 H1 g1 _ fun v F2 H2 g2 r => hb F2 H2 (g1.trans g2) _ fun w F3 H3 g3 r2 => ⟨i, j, r, r2, hc, q _ F3 H3 (g2.trans g3) (hz F3)⟩
variable {i j : Int}
theorem ev_add (ha : Ev rInt ta σ F H i) (hb : Ev rInt tb σ F H j) : Ev rInt (tOp (rI0 fun i j => .int (i + j)) ta tb) σ F H (i + j) := ev_I0 ha hb fun _ => rfl
theorem ev_sub (ha : Ev rInt ta σ F H i) (hb : Ev rInt tb σ F H j) : Ev rInt (tOp (rI0 fun i j => .int (i - j)) ta tb) σ F H (i - j) := ev_I0 ha hb fun _ => rfl
theorem ev_mul (ha : Ev rInt ta σ F H i) (hb : Ev rInt tb σ F H j) (hc : CMul i j) : Ev rInt (tOp (rI CMul fun i j => .int (i * j)) ta tb) σ F H (i * j) := ev_I ha hb hc fun _ => rfl
theorem ev_mulW (ha : Ev rInt ta σ F H i) (hb : Ev rInt tb σ F H j) (hc : CMulW i j) : Ev rInt (tOp (rI CMulW fun i j => .int (i * j)) ta tb) σ F H (i * j) := ev_I ha hb hc fun _ => rfl
theorem ev_fdiv (ha : Ev rInt ta σ F H i) (hb : Ev rInt tb σ F H j) (hc : CDiv i j) : Ev rInt (tOp (rI CDiv fun i j => .int (i / j)) ta tb) σ F H (i / j) := ev_I ha hb hc fun _ => rfl
theorem ev_mod (ha : Ev rInt ta σ F H i) (hb : Ev rInt tb σ F H j) (hc : 0 < j) : Ev rInt (tOp (rI (fun _ j => 0 < j) fun i j => .int (i % j)) ta tb) σ F H (i % j) := ev_I ha hb hc fun _ => rfl
theorem ev_pow (ha : Ev rInt ta σ F H i) (hb : Ev rInt tb σ F H j) (hc : CPow i j) : Ev rInt (tOp (rI CPow fun i j => .int (i ^ j.toNat)) ta tb) σ F H (i ^ j.toNat) := ev_I ha hb hc fun _ => rfl
theorem ev_lt (ha : Ev rInt ta σ F H i) (hb : Ev rInt tb σ F H j) : Ev rBl (tOp (rI0 fun i j => .bl (decide (i < j))) ta tb) σ F H (decide (i < j)) := ev_I0 ha hb fun _ => rfl
theorem ev_le (ha : Ev rInt ta σ F H i) (hb : Ev rInt tb σ F H j) : Ev rBl (tOp (rI0 fun i j => .bl (decide (i ≤ j))) ta tb) σ F H (decide (i ≤ j)) := ev_I0 ha hb fun _ => rfl
theorem ev_gt (ha : Ev rInt ta σ F H i) (hb : Ev rInt tb σ F H j) : Ev rBl (tOp (rI0 fun i j => .bl (decide (j < i))) ta tb) σ F H (decide (j < i)) := ev_I0 ha hb fun _ => rfl
theorem ev_ge (ha : Ev rInt ta σ F H i) (hb : Ev rInt tb σ F H j) : Ev rBl (tOp (rI0 fun i j => .bl (decide (j ≤ i))) ta tb) σ F H (decide (j ≤ i)) := ev_I0 ha hb fun _ => rfl
theorem ev_neg (ha : Ev rInt ta σ F H i) : Ev rInt (tUn (rU fun i => .int (-i)) ta) σ F H (-i) := fun F1 H1 g1 Q q => ha F1 H1 g1 _ fun v F2 H2 g2 r => ⟨i, r, q _ F2 H2 g2 rfl⟩
theorem ev_eqI (ha : Ev rInt ta σ F H i) (hb : Ev rInt tb σ F H j) : Ev rBl (tOp rEq ta tb) σ F H (decide (i = j)) := fun F1 H1 g1 Q q =>
  ha F1 H1 g1 _ fun v F2 H2 g2 r => hb F2 H2 (g1.trans g2) _ fun w F3 H3 g3 r2 => by
    cases (show v = V.int i from r)
    cases (show w = V.int j from r2)
    refine ⟨rfl, ?_⟩
    have e : decide (V.int i = V.int j) = decide (i = j) := by simp
    rw [e]
    exact q _ F3 H3 (g2.trans g3) rfl
theorem ev_neI (ha : Ev rInt ta σ F H i) (hb : Ev rInt tb σ F H j) : Ev rBl (tOp rNe ta tb) σ F H (!decide (i = j)) := fun F1 H1 g1 Q q =>
  ha F1 H1 g1 _ fun v F2 H2 g2 r => hb F2 H2 (g1.trans g2) _ fun w F3 H3 g3 r2 => by
    cases (show v = V.int i from r)
    cases (show w = V.int j from r2)
    refine ⟨rfl, ?_⟩
    have e : decide (V.int i = V.int j) = decide (i = j) := by simp
    rw [e]
    exact q _ F3 H3 (g2.trans g3) rfl
theorem ev_eqS {a b : Str} (ha : Ev rStr ta σ F H a) (hb : Ev rStr tb σ F H b) : Ev rBl (tOp rEq ta tb) σ F H (decide (a = b)) := fun F1 H1 g1 Q q =>
  ha F1 H1 g1 _ fun v F2 H2 g2 r => hb F2 H2 (g1.trans g2) _ fun w F3 H3 g3 r2 => by
    cases (show v = V.str a from r)
    cases (show w = V.str b from r2)
    refine ⟨rfl, ?_⟩
    have e : decide (V.str a = V.str b) = decide (a = b) := by simp
    rw [e]
    exact q _ F3 H3 (g2.trans g3) rfl
theorem ev_neS {a b : Str} (ha : Ev rStr ta σ F H a) (hb : Ev rStr tb σ F H b) : Ev rBl (tOp rNe ta tb) σ F H (!decide (a = b)) := fun F1 H1 g1 Q q =>
  ha F1 H1 g1 _ fun v F2 H2 g2 r => hb F2 H2 (g1.trans g2) _ fun w F3 H3 g3 r2 => by
    cases (show v = V.str a from r)
    cases (show w = V.str b from r2)
    refine ⟨rfl, ?_⟩
    have e : decide (V.str a = V.str b) = decide (a = b) := by simp
    rw [e]
    exact q _ F3 H3 (g2.trans g3) rfl
/-- is None -/
def rIsN : R2 := fun x y H Q => y = .non ∧ Q (.bl (decide (x = .non))) H
def rNotN : R2 := fun x y H Q => y = .non ∧ Q (.bl (!decide (x = .non))) H
theorem op_isN1 {X : Cx} : OpR X (compareOp .Is) rIsN := op_isN
theorem op_notN1 {X : Cx} : OpR X (compareOp .IsNot) rNotN := op_notN
class NotN {α : Type} (R : Rp α) : Prop where
  nn : ∀ {F v x}, R F v x → v ≠ .non
instance : NotN rInt := ⟨fun h e => by rw [show _ = _ from h] at e; cases e⟩
instance : NotN rNat := ⟨fun h e => by rw [show _ = _ from h] at e; cases e⟩
instance : NotN rStr := ⟨fun h e => by rw [show _ = _ from h] at e; cases e⟩
instance : NotN rBl := ⟨fun h e => by rw [show _ = _ from h] at e; cases e⟩
instance {α : Type} {R : Rp α} : NotN (rLst R) := ⟨fun ⟨_, _, h, _⟩ e => by rw [h] at e; cases e⟩
instance {α : Type} {R : Rp α} : NotN (rTup R) := ⟨fun ⟨_, _, h, _⟩ e => by rw [h] at e; cases e⟩
instance {α β : Type} {R : Rp α} {S : Rp β} : NotN (rPr R S) := ⟨fun ⟨_, _, _, h, _⟩ e => by rw [h] at e; cases e⟩
theorem opt_isNone {R : Rp α} [n : NotN R] {v : V} {x : Option α} (h : rOpt R F v x) : decide (v = .non) = x.isNone := by
  cases x with
  | none => exact decide_eq_true h
  | some y => exact decide_eq_false (n.nn h)
theorem ev_isN {x : Option α} (ha : Ev (rOpt R) ta σ F H x) (n : NotN R := by infer_instance) : Ev rBl (tOp rIsN ta (tC .non)) σ F H x.isNone := fun F1 H1 g1 Q q =>
  ha F1 H1 g1 _ fun v F2 H2 g2 r => ⟨rfl, by rw [opt_isNone r]; exact q _ F2 H2 g2 rfl⟩
theorem ev_notN {x : Option α} (ha : Ev (rOpt R) ta σ F H x) (n : NotN R := by infer_instance) : Ev rBl (tOp rNotN ta (tC .non)) σ F H x.isSome := fun F1 H1 g1 Q q =>
  ha F1 H1 g1 _ fun v F2 H2 g2 r => ⟨rfl, by rw [opt_isNone r]; exact q _ F2 H2 g2 (by cases x <;> rfl)⟩
/-! tests -/
theorem et_test {b : Bool} (h : Ev rBl te σ F H b) : EvT (tTest te) σ F H b := fun F1 H1 g Q q => h F1 H1 g _ fun v F2 H2 g2 r => ⟨b, r, q F2 H2 g2⟩
theorem et_B {b : Bool} (h : Ev rBl te σ F H b) : EvT (tB te) σ F H b := fun F1 H1 g Q q => h F1 H1 g _ fun v F2 H2 g2 r => ⟨b, r, q F2 H2 g2⟩
theorem et_and {a b : Bool} (h1 : EvT t σ F H a) (h2 : a = true → EvT u σ F H b) : EvT (tAnd t u) σ F H (a && b) := fun F1 H1 g Q q => h1 F1 H1 g _ fun F2 H2 g2 => by
  cases a with
  | true => exact h2 rfl F2 H2 (g.trans g2) Q fun F3 H3 g3 => q F3 H3 (g2.trans g3)
  | false => exact q F2 H2 g2
theorem et_or {a b : Bool} (h1 : EvT t σ F H a) (h2 : a = false → EvT u σ F H b) : EvT (tOr t u) σ F H (a || b) := fun F1 H1 g Q q => h1 F1 H1 g _ fun F2 H2 g2 => by
  cases a with
  | true => exact q F2 H2 g2
  | false => exact h2 rfl F2 H2 (g.trans g2) Q fun F3 H3 g3 => q F3 H3 (g2.trans g3)
theorem et_not {a : Bool} (h1 : EvT t σ F H a) : EvT (tNot t) σ F H (!a) := fun F1 H1 g Q q => h1 F1 H1 g _ fun F2 H2 g2 => q F2 H2 g2
theorem ev_andV {a b : Bool} (h1 : Ev rBl ta σ F H a) (h2 : a = true → Ev rBl tb σ F H b) : Ev rBl (tAndV ta tb) σ F H (a && b) := fun F1 H1 g Q q => h1 F1 H1 g _ fun v F2 H2 g2 r => ⟨a, r, by
  cases a with
  | true => exact h2 rfl F2 H2 (g.trans g2) Q fun w F3 H3 g3 => q w F3 H3 (g2.trans g3)
  | false => exact q _ F2 H2 g2 rfl⟩
theorem ev_orV {a b : Bool} (h1 : Ev rBl ta σ F H a) (h2 : a = false → Ev rBl tb σ F H b) : Ev rBl (tOrV ta tb) σ F H (a || b) := fun F1 H1 g Q q => h1 F1 H1 g _ fun v F2 H2 g2 r => ⟨a, r, by
  cases a with
  | true => exact q _ F2 H2 g2 rfl
  | false => exact h2 rfl F2 H2 (g.trans g2) Q fun w F3 H3 g3 => q w F3 H3 (g2.trans g3)⟩
theorem ev_notV {a : Bool} (h1 : Ev rBl ta σ F H a) : Ev rBl (tNotV ta) σ F H (!a) := fun F1 H1 g Q q => h1 F1 H1 g _ fun v F2 H2 g2 r => ⟨a, r, q _ F2 H2 g2 rfl⟩
theorem ev_if {b : Bool} {x1 x2 : α} (h : EvT t σ F H b) (h1 : b = true → Ev R ta σ F H x1) (h2 : b = false → Ev R tb σ F H x2) : Ev R (tIf t ta tb) σ F H (if b = true then x1 else x2) := fun F1 H1 g Q q => h F1 H1 g _ fun F2 H2 g2 => by
  cases b with
  | true => exact h1 rfl F2 H2 (g.trans g2) Q fun w F3 H3 g3 r => q w F3 H3 (g2.trans g3) (by simpa using r)
  | false => exact h2 rfl F2 H2 (g.trans g2) Q fun w F3 H3 g3 r => q w F3 H3 (g2.trans g3) (by simpa using r)
theorem ev_chain {i j k : Int} {p p' : Int → Int → Bool} (ha : Ev rInt ta σ F H i) (hb : Ev rInt tb σ F H j) (hc : Ev rInt tc σ F H k) :
    Ev rBl (tChain (rI0 fun i j => .bl (p i j)) (rI0 fun i j => .bl (p' i j)) ta tb tc) σ F H (p i j && p' j k) := fun F1 H1 g1 Q q =>
  ha F1 H1 g1 _ fun v F2 H2 g2 r => hb F2 H2 (g1.trans g2) _ fun w F3 H3 g3 r2 => ⟨i, j, r, r2, p i j, rfl, by
    cases e : p i j with
    | true => exact hc F3 H3 ((g1.trans g2).trans g3) _ fun w2 F4 H4 g4 r3 => ⟨j, k, r2, r3, q _ F4 H4 ((g2.trans g3).trans g4) (by rw [e, Bool.true_and]; rfl)⟩
    | false => exact q _ F3 H3 (g2.trans g3) (by rw [e, Bool.false_and]; rfl)⟩
/-! arguments -/
theorem ea_nil : EvA tNil σ F H (fun _ vs => vs = []) := fun F1 H1 g Q q => q _ F1 H1 (.refl g.fh) rfl
theorem ea_cons {tr : TA} {P : Hp → List V → Prop} (h : Ev R te σ F H x) (hr : EvA tr σ F H P) (m : Mn R := by infer_instance) : EvA (tCons te tr) σ F H (fun F vs => ∃ v ws, vs = v :: ws ∧ R F v x ∧ P F ws) := fun F1 H1 g Q q =>
  h F1 H1 g _ fun v F2 H2 g2 r => hr F2 H2 (g.trans g2) _ fun ws F3 H3 g3 p => q _ F3 H3 (g2.trans g3) ⟨v, ws, rfl, m.mono g3.ff r, p⟩
end
end El

set_option Elab.async false
set_option linter.all false
set_option maxRecDepth 100000
set_option maxHeartbeats 2000000
namespace El
open PySem PySem.Spec L2
/-- a reference as it stands -/
def rRef : Rp Addr := fun _ v a => v = .ref a
def rTy : Rp String := fun _ v a => v = .ty a
instance : Mn rRef := ⟨fun _ h => h⟩
instance : Mn rTy := ⟨fun _ h => h⟩
section
variable {K : PySem.W.Frag} {σ : St} {F H F' H' : Hp} {ta tb tc te : TE} {t u : TT} {α β γ δ ε : Type} {R : Rp α} {S : Rp β} {T : Rp γ} {x : α} {y : β} {z : γ} {xs : List α} {i j : Int}
theorem ev_ref {a : Addr} : Ev rRef (tC (.ref a)) σ F H a := fun F1 H1 g Q q => q _ F1 H1 (.refl g.fh) rfl
theorem ev_ty {n : String} : Ev rTy (tC (.ty n)) σ F H n := fun F1 H1 g Q q => q _ F1 H1 (.refl g.fh) rfl

/-! ### index, slice, length -/
theorem atI_paired {f : V → α → Prop} {vs : List V} {xs : List α} {i : Int} {x : α} (p : Paired f vs xs) (h : atI xs i = some x) : ∃ v, atI vs i = some v ∧ f v x := by
  unfold atI at h ⊢
  rw [p.length]
  cases e : ixN xs.length i with
  | none => rw [e] at h; cases h
  | some j =>
    rw [e] at h
    exact El.Paired.get p h
theorem atI_natL {xs : List α} {n : Nat} {x : α} (h : xs[n]? = some x) : atI xs (n : Int) = some x := by
  have hl : n < xs.length := (List.getElem?_eq_some_iff.mp h).1
  unfold atI ixN
  rw [if_pos (by omega), if_pos (by omega)]
  exact h
theorem ev_ixL (ha : Ev (rLst R) ta σ F H xs) (hb : Ev rInt tb σ F H i) (h : atI xs i = some x) (m : Mn R := by infer_instance) : Ev R (tOp (rIxL K) ta tb) σ F H x := fun F1 H1 g1 Q q =>
  ha F1 H1 g1 _ fun v F2 H2 g2 ⟨a, vs, e, hl, p⟩ => hb F2 H2 (g1.trans g2) _ fun w F3 H3 g3 r2 => by
    obtain ⟨y, hy, ry⟩ := atI_paired p h
    exact ⟨a, vs, i, y, e, r2, SqL.of (g3.fh _ _ (g3.ff _ _ hl)), hy, q y F3 H3 (g2.trans g3) (m.mono g3.ff ry)⟩
theorem ev_ixT (ha : Ev (rTup R) ta σ F H xs) (hb : Ev rInt tb σ F H i) (h : atI xs i = some x) (m : Mn R := by infer_instance) : Ev R (tOp (rIxT K) ta tb) σ F H x := fun F1 H1 g1 Q q =>
  ha F1 H1 g1 _ fun v F2 H2 g2 ⟨a, vs, e, hl, p⟩ => hb F2 H2 (g1.trans g2) _ fun w F3 H3 g3 r2 => by
    obtain ⟨y, hy, ry⟩ := atI_paired p h
    exact ⟨a, vs, i, y, e, r2, SqT.of (g3.fh _ _ (g3.ff _ _ hl)), hy, q y F3 H3 (g2.trans g3) (m.mono g3.ff ry)⟩
theorem ev_fst {p : α × β} (ha : Ev (rPr R S) ta σ F H p) (m : Mn R := by infer_instance) : Ev R (tOp (rIxT K) ta (tC (.int 0))) σ F H p.1 := fun F1 H1 g1 Q q =>
  ha F1 H1 g1 _ fun v F2 H2 g2 ⟨a, u, w, e, hl, r1, r2⟩ => ⟨a, [u, w], 0, u, e, rfl, SqT.of (g2.fh _ _ hl), rfl, q u F2 H2 g2 r1⟩
theorem ev_snd {p : α × β} (ha : Ev (rPr R S) ta σ F H p) (m : Mn S := by infer_instance) : Ev S (tOp (rIxT K) ta (tC (.int 1))) σ F H p.2 := fun F1 H1 g1 Q q =>
  ha F1 H1 g1 _ fun v F2 H2 g2 ⟨a, u, w, e, hl, r1, r2⟩ => ⟨a, [u, w], 1, w, e, rfl, SqT.of (g2.fh _ _ hl), rfl, q w F2 H2 g2 r2⟩
/-- a list that may change, as it stands -/
theorem ev_ixM {a : Addr} {vs : List V} {v : V} (ha : Ev rRef ta σ F H a) (hb : Ev rInt tb σ F H i) (hl : H a = some (.lst vs)) (h : atI vs i = some v) (r : R F v x) (m : Mn R := by infer_instance) : Ev R (tOp (rIxL K) ta tb) σ F H x := fun F1 H1 g1 Q q =>
  ha F1 H1 g1 _ fun w F2 H2 g2 e => hb F2 H2 (g1.trans g2) _ fun w2 F3 H3 g3 r2 =>
    ⟨a, vs, i, v, e, r2, SqL.of (g3.hx _ _ (g2.hx _ _ (g1.hx _ _ hl))), h, q v F3 H3 (g2.trans g3) (m.mono ((g1.ff.trans g2.ff).trans g3.ff) r)⟩
def cut (xs : List α) (lo hi : Option Int) : List α := (xs.drop (HT.sIx xs.length 0 lo)).take (HT.sIx xs.length xs.length hi - HT.sIx xs.length 0 lo)
theorem cut_paired {f : V → α → Prop} {vs : List V} {xs : List α} {lo hi : Option Int} (p : Paired f vs xs) : Paired f (cutV vs lo hi) (cut xs lo hi) := by
  unfold cutV cut
  rw [p.length]
  exact Paired.take _ (Paired.drop _ p)
theorem cut_to {n : Nat} : cut xs none (some (n : Int)) = xs.take n := by
  unfold cut
  rw [HT.sIx_none, HT.sIx_nat, List.drop_zero, Nat.sub_zero]
  by_cases h : n ≤ xs.length
  · rw [Nat.min_eq_left h]
  · rw [Nat.min_eq_right (by omega), List.take_of_length_le (Nat.le_refl _), List.take_of_length_le (by omega)]
theorem cut_from {n : Nat} : cut xs (some (n : Int)) none = xs.drop n := by
  unfold cut
  rw [HT.sIx_none, HT.sIx_nat]
  by_cases h : n ≤ xs.length
  · rw [Nat.min_eq_left h]
    exact List.take_of_length_le (by rw [List.length_drop]; exact Nat.le_refl _)
  · rw [Nat.min_eq_right (by omega), List.drop_of_length_le (Nat.le_refl _), List.drop_of_length_le (by omega), List.take_nil]
theorem cut_mid {n k : Nat} (h : n ≤ k) : cut xs (some (n : Int)) (some (k : Int)) = (xs.drop n).take (k - n) := by
  unfold cut
  rw [HT.sIx_nat, HT.sIx_nat]
  by_cases h1 : n ≤ xs.length
  · rw [Nat.min_eq_left h1]
    by_cases h2 : k ≤ xs.length
    · rw [Nat.min_eq_left h2]
    · rw [Nat.min_eq_right (by omega), List.take_of_length_le (by rw [List.length_drop]; exact Nat.le_refl _), List.take_of_length_le (by rw [List.length_drop]; omega)]
  · rw [show min n xs.length = xs.length by omega, List.drop_of_length_le (Nat.le_refl _), List.drop_of_length_le (show xs.length ≤ n by omega), List.take_nil, List.take_nil]
def EvO (to : TO) (σ : St) (F H : Hp) (o : Option Int) : Prop :=
  ∀ F1 H1, Gr M0 F H F1 H1 → ∀ Q : Option Int → Hp → Prop, (∀ F2 H2, Gr M0 F1 H1 F2 H2 → Q o H2) → to σ H1 Q
theorem eo_none : EvO tNoPart σ F H none := fun F1 H1 g Q q => q F1 H1 (.refl g.fh)
theorem eo_some (h : Ev rInt te σ F H i) : EvO (tPart te) σ F H (some i) := fun F1 H1 g Q q => h F1 H1 g _ fun v F2 H2 g2 r => ⟨i, r, q F2 H2 g2⟩
theorem ev_slL {tl th : TO} {lo hi : Option Int} (h : Ev (rLst R) te σ F H xs) (h1 : EvO tl σ F H lo) (h2 : EvO th σ F H hi) (m : Mn R := by infer_instance) : Ev (rLst R) (tSl (rSlL K) te tl th) σ F H (cut xs lo hi) := fun F1 H1 g1 Q q =>
  h F1 H1 g1 _ fun v F2 H2 g2 ⟨a, vs, e, hl, p⟩ => h1 F2 H2 (g1.trans g2) _ fun F3 H3 g3 => h2 F3 H3 ((g1.trans g2).trans g3) _ fun F4 H4 g4 =>
    ⟨a, vs, e, SqL.of (g4.fh _ _ (g4.ff _ _ (g3.ff _ _ hl))), fun D hD => by
      have g5 : Gr M0 F4 H4 (upd F4 D (.lst (cutV vs lo hi))) (upd H4 D (.lst (cutV vs lo hi))) := .new g4.fh hD
      exact q _ _ _ (((g2.trans g3).trans g4).trans g5) ⟨D, _, rfl, upd_same, Paired.up (((g3.ff).trans g4.ff).trans g5.ff) (cut_paired p)⟩⟩
abbrev rLenS (K : PySem.W.Frag) : List V → Hp → VK → Prop := fun xs H Q => ∃ p ys, xs = [.ref p] ∧ (SqL K H p ys ∨ SqT K H p ys) ∧ Q (.int ys.length) H
theorem ev_lenL (ha : Ev (rLst R) ta σ F H xs) : Ev rInt (tCB (rLenS K) (tCons ta tNil)) σ F H (xs.length : Int) := fun F1 H1 g1 Q q =>
  ha F1 H1 g1 _ fun v F2 H2 g2 ⟨a, vs, e, hl, p⟩ => ⟨a, vs, by rw [e], .inl (SqL.of (g2.fh _ _ hl)), q _ F2 H2 g2 (by rw [← p.length]; rfl)⟩
theorem ev_lenT (ha : Ev (rTup R) ta σ F H xs) : Ev rInt (tCB (rLenS K) (tCons ta tNil)) σ F H (xs.length : Int) := fun F1 H1 g1 Q q =>
  ha F1 H1 g1 _ fun v F2 H2 g2 ⟨a, vs, e, hl, p⟩ => ⟨a, vs, by rw [e], .inr (SqT.of (g2.fh _ _ hl)), q _ F2 H2 g2 (by rw [← p.length]; rfl)⟩
theorem ev_lenM {a : Addr} {vs : List V} (ha : Ev rRef ta σ F H a) (hl : H a = some (.lst vs)) : Ev rInt (tCB (rLenS K) (tCons ta tNil)) σ F H (vs.length : Int) := fun F1 H1 g1 Q q =>
  ha F1 H1 g1 _ fun v F2 H2 g2 e => ⟨a, vs, by rw [show v = _ from e], .inl (SqL.of (g2.hx _ _ (g1.hx _ _ hl))), q _ F2 H2 g2 rfl⟩
theorem ev_lenStr {s : Str} (hz : s.length ≤ sizeLine) (ha : Ev rStr ta σ F H s) : Ev rInt (tCB (fun xs H Q => ∃ z, xs = [.str z] ∧ z.length ≤ sizeLine ∧ Q (.int z.length) H) (tCons ta tNil)) σ F H (s.length : Int) := fun F1 H1 g1 Q q =>
  ha F1 H1 g1 _ fun v F2 H2 g2 e => ⟨s, by rw [show v = _ from e], hz, q _ F2 H2 g2 rfl⟩

/-! ### displays, list(..), tuple(..) -/
def EvL {α : Type} (R : Rp α) (ta : TA) (σ : St) (F H : Hp) (xs : List α) : Prop := EvA ta σ F H (fun F vs => Paired (R F) vs xs)
theorem el_nil : EvL R tNil σ F H [] := fun F1 H1 g Q q => q _ F1 H1 (.refl g.fh) .nil
theorem el_cons {tr : TA} (h : Ev R te σ F H x) (hr : EvL R tr σ F H xs) (m : Mn R := by infer_instance) : EvL R (tCons te tr) σ F H (x :: xs) := fun F1 H1 g Q q =>
  h F1 H1 g _ fun v F2 H2 g2 r => hr F2 H2 (g.trans g2) _ fun ws F3 H3 g3 p => q _ F3 H3 (g2.trans g3) (.cons (m.mono g3.ff r) p)
theorem ev_lst {t : TA} (h : EvL R t σ F H xs) (hz : xs.length ≤ sizeLine) (m : Mn R := by infer_instance) : Ev (rLst R) (tLst t) σ F H xs := fun F1 H1 g Q q =>
  h F1 H1 g _ fun vs F2 H2 g2 p => ⟨by rw [p.length]; exact hz, fun D hD => q _ _ _ (g2.trans (.new g2.fh hD)) ⟨D, vs, rfl, upd_same, Paired.up (Gr.new (M := M0) g2.fh hD).ff p⟩⟩
theorem ev_tup {t : TA} (h : EvL R t σ F H xs) (hz : xs.length ≤ sizeLine) (m : Mn R := by infer_instance) : Ev (rTup R) (tTup t) σ F H xs := fun F1 H1 g Q q =>
  h F1 H1 g _ fun vs F2 H2 g2 p => ⟨by rw [p.length]; exact hz, fun D hD => q _ _ _ (g2.trans (.new g2.fh hD)) ⟨D, vs, rfl, upd_same, Paired.up (Gr.new (M := M0) g2.fh hD).ff p⟩⟩
theorem ev_pr (ha : Ev R ta σ F H x) (hb : Ev S tb σ F H y) (m : Mn R := by infer_instance) (n : Mn S := by infer_instance) : Ev (rPr R S) (tTup (tCons ta (tCons tb tNil))) σ F H (x, y) := fun F1 H1 g Q q =>
  ha F1 H1 g _ fun v F2 H2 g2 r => hb F2 H2 (g.trans g2) _ fun w F3 H3 g3 r2 => ⟨by show 2 ≤ sizeLine; decide, fun D hD => by
    have g4 : Gr M0 F3 H3 (upd F3 D (.tup [v, w])) (upd H3 D (.tup [v, w])) := .new g3.fh hD
    exact q _ _ _ ((g2.trans g3).trans g4) ⟨D, v, w, rfl, upd_same, m.mono (g3.ff.trans g4.ff) r, n.mono g4.ff r2⟩⟩
abbrev rListS (K : PySem.W.Frag) : List V → Hp → VK → Prop := fun xs H Q => ∃ p ys, xs = [.ref p] ∧ (SqL K H p ys ∨ SqT K H p ys) ∧ ∀ l, H l = none → Q (.ref l) (upd H l (.lst ys))
abbrev rTupS (K : PySem.W.Frag) : List V → Hp → VK → Prop := fun xs H Q => ∃ p ys, xs = [.ref p] ∧ ((SqL K H p ys ∧ ∀ l, H l = none → Q (.ref l) (upd H l (.tup ys))) ∨ (SqT K H p ys ∧ Q (.ref p) H))
theorem ev_listL (ha : Ev (rLst R) ta σ F H xs) (m : Mn R := by infer_instance) : Ev (rLst R) (tCB (rListS K) (tCons ta tNil)) σ F H xs := fun F1 H1 g1 Q q =>
  ha F1 H1 g1 _ fun v F2 H2 g2 ⟨a, vs, e, hl, p⟩ => ⟨a, vs, by rw [e], .inl (SqL.of (g2.fh _ _ hl)), fun D hD => q _ _ _ (g2.trans (.new g2.fh hD)) ⟨D, vs, rfl, upd_same, Paired.up (Gr.new (M := M0) g2.fh hD).ff p⟩⟩
theorem ev_listT (ha : Ev (rTup R) ta σ F H xs) (m : Mn R := by infer_instance) : Ev (rLst R) (tCB (rListS K) (tCons ta tNil)) σ F H xs := fun F1 H1 g1 Q q =>
  ha F1 H1 g1 _ fun v F2 H2 g2 ⟨a, vs, e, hl, p⟩ => ⟨a, vs, by rw [e], .inr (SqT.of (g2.fh _ _ hl)), fun D hD => q _ _ _ (g2.trans (.new g2.fh hD)) ⟨D, vs, rfl, upd_same, Paired.up (Gr.new (M := M0) g2.fh hD).ff p⟩⟩
theorem ev_tupL (ha : Ev (rLst R) ta σ F H xs) (m : Mn R := by infer_instance) : Ev (rTup R) (tCB (rTupS K) (tCons ta tNil)) σ F H xs := fun F1 H1 g1 Q q =>
  ha F1 H1 g1 _ fun v F2 H2 g2 ⟨a, vs, e, hl, p⟩ => ⟨a, vs, by rw [e], .inl ⟨SqL.of (g2.fh _ _ hl), fun D hD => q _ _ _ (g2.trans (.new g2.fh hD)) ⟨D, vs, rfl, upd_same, Paired.up (Gr.new (M := M0) g2.fh hD).ff p⟩⟩⟩
theorem rgV_paired {H : Hp} (n : Nat) : Paired (rNat H) (rgV 0 (n : Int)) (List.range n) := by
  unfold rgV
  rw [show ((n : Int) - 0).toNat = n by omega]
  have : ∀ l : List Nat, Paired (rNat H) (l.map fun i => V.int (0 + (i : Nat))) l := fun l => by
    induction l with
    | nil => exact .nil
    | cons a l ih => exact .cons (show V.int (0 + (a : Int)) = V.int (a : Int) by rw [Int.zero_add]) ih
  exact this _
theorem ev_tupRg {n : Nat} (ha : Ev rInt ta σ F H (n : Int)) (hn : n ≤ 1000000) : Ev (rTup rNat) (tTupRg (tRg1 ta)) σ F H (List.range n) := fun F1 H1 g1 Q q =>
  ha F1 H1 g1 _ fun v F2 H2 g2 e => ⟨n, e, .of_le (by omega) (by omega) (by omega) (by omega), fun D hD => q _ _ _ (g2.trans (.new g2.fh hD)) ⟨D, _, rfl, upd_same, rgV_paired n⟩⟩
theorem ev_lstRg {n : Nat} (ha : Ev rInt ta σ F H (n : Int)) (hn : n ≤ 1000000) : Ev (rLst rNat) (tLstRg (tRg1 ta)) σ F H (List.range n) := fun F1 H1 g1 Q q =>
  ha F1 H1 g1 _ fun v F2 H2 g2 e => ⟨n, e, .of_le (by omega) (by omega) (by omega) (by omega), fun D hD => q _ _ _ (g2.trans (.new g2.fh hD)) ⟨D, _, rfl, upd_same, rgV_paired n⟩⟩
theorem ev_all {bs : List Bool} (ha : Ev (rLst rBl) ta σ F H bs) : Ev rBl (tCB (rAll K) (tCons ta tNil)) σ F H (bs.all id) := fun F1 H1 g1 Q q =>
  ha F1 H1 g1 _ fun v F2 H2 g2 ⟨a, vs, e, hl, p⟩ => ⟨a, bs, by rw [e], by rw [← bls_paired p]; exact SqL.of (g2.fh _ _ hl), q _ F2 H2 g2 rfl⟩
theorem ev_any {bs : List Bool} (ha : Ev (rLst rBl) ta σ F H bs) : Ev rBl (tCB (rAny K) (tCons ta tNil)) σ F H (bs.any id) := fun F1 H1 g1 Q q =>
  ha F1 H1 g1 _ fun v F2 H2 g2 ⟨a, vs, e, hl, p⟩ => ⟨a, bs, by rw [e], by rw [← bls_paired p]; exact SqL.of (g2.fh _ _ hl), q _ F2 H2 g2 rfl⟩
theorem ev_sum {ns : List Int} (ha : Ev (rLst rInt) ta σ F H ns) : Ev rInt (tCB (rSum K) (tCons ta tNil)) σ F H ns.sum := fun F1 H1 g1 Q q =>
  ha F1 H1 g1 _ fun v F2 H2 g2 ⟨a, vs, e, hl, p⟩ => ⟨a, ns, by rw [e], by rw [← ints_paired p]; exact SqL.of (g2.fh _ _ hl), q _ F2 H2 g2 rfl⟩
theorem ev_cat {xs ys : List α} (ha : Ev (rLst R) ta σ F H xs) (hb : Ev (rLst R) tb σ F H ys) (hz : xs.length + ys.length ≤ sizeLine) (m : Mn R := by infer_instance) : Ev (rLst R) (tOp rCat ta tb) σ F H (xs ++ ys) := fun F1 H1 g1 Q q =>
  ha F1 H1 g1 _ fun v F2 H2 g2 ⟨a, vs, e, hl, p⟩ => hb F2 H2 (g1.trans g2) _ fun w F3 H3 g3 ⟨b, ws, e2, hl2, p2⟩ =>
    ⟨a, b, vs, ws, e, e2, g3.fh _ _ (g3.ff _ _ hl), g3.fh _ _ hl2, by rw [p.length, p2.length]; exact hz, fun D hD => by
      have g4 : Gr M0 F3 H3 (upd F3 D (.lst (vs ++ ws))) (upd H3 D (.lst (vs ++ ws))) := .new g3.fh hD
      exact q _ _ _ ((g2.trans g3).trans g4) ⟨D, _, rfl, upd_same, Paired.app (Paired.up (g3.ff.trans g4.ff) p) (Paired.up g4.ff p2)⟩⟩
theorem ev_rep1 {n : Int} (ha : Ev (rLst R) ta σ F H [x]) (hb : Ev rInt tb σ F H n) (hn : n ≤ 1000000) (h0 : -1000000 ≤ n) (m : Mn R := by infer_instance) : Ev (rLst R) (tOp rRep ta tb) σ F H (List.replicate n.toNat x) := fun F1 H1 g1 Q q =>
  ha F1 H1 g1 _ fun v F2 H2 g2 ⟨a, vs, e, hl, p⟩ => hb F2 H2 (g1.trans g2) _ fun w F3 H3 g3 e2 => by
    cases p with
    | cons r p =>
      cases p
      rename_i y
      refine ⟨a, n, [y], e, e2, g3.fh _ _ (g3.ff _ _ hl), by omega, by omega, by show 1 * n.toNat ≤ sizeLine; rw [sizeLine_eq]; omega, fun D hD => ?_⟩
      have g4 : ∀ o, Gr M0 F3 H3 (upd F3 D o) (upd H3 D o) := fun o => .new g3.fh hD
      refine q _ _ _ ((g2.trans g3).trans (g4 _)) ⟨D, _, rfl, upd_same, ?_⟩
      have r' := fun o => m.mono (g3.ff.trans (g4 o).ff) r
      generalize e5 : HO.lst _ = o5
      have r5 := r' o5
      have : ∀ k, Paired (R (upd F3 D o5)) (List.replicate k [y]).flatten (List.replicate k x) := fun k => by
        induction k with
        | zero => exact .nil
        | succ k ih => exact .cons r5 ih
      exact this _
end
end El

set_option Elab.async false
set_option linter.all false
set_option maxRecDepth 100000
set_option maxHeartbeats 2000000
namespace El
open PySem PySem.Spec L2
section
variable {K : PySem.W.Frag} {σ : St} {F H F' H' : Hp} {ta tb tc te tl : TE} {tt t u : TT} {α β γ δ ε : Type} {R : Rp α} {S : Rp β} {T : Rp γ} {x : α} {y : β} {z : γ} {xs : List α} {ys : List β} {i j : Int} {D : Ends} {ts tu : TS}

/-! ### statements -/
theorem x_set {i : Nat} (e : Ex F H) (h : Ev R te σ F H x) (k : ∀ v F' H', Gr M0 F H F' H' → R F' v x → D.nx (σ.set i (some v)) H') : tAsg te (gName i) D σ H := h F H (.refl e) _ fun v F' H' g r => k v F' H' g r
theorem x_ret (e : Ex F H) (h : Ev R te σ F H x) (k : ∀ v F' H', Gr M0 F H F' H' → R F' v x → D.rt v H') : tRet te D σ H := h F H (.refl e) _ k
theorem x_drop (e : Ex F H) (h : Ev R te σ F H x) (k : ∀ F' H', Gr M0 F H F' H' → D.nx σ H') : tDrop te D σ H := h F H (.refl e) _ fun v F' H' g _ => k F' H' g
theorem x_if {b : Bool} (e : Ex F H) (h : EvT t σ F H b) (k1 : b = true → ∀ F' H', Gr M0 F H F' H' → ts D σ H') (k2 : b = false → ∀ F' H', Gr M0 F H F' H' → tu D σ H') : tIfS t ts tu D σ H := h F H (.refl e) _ fun F' H' g => by
  cases b with
  | true => exact k1 rfl F' H' g
  | false => exact k2 rfl F' H' g
/-- name += int -/
theorem x_aug {i : Nat} {a b : Int} {f : Int → Int → Int} (e : Ex F H) (hx : σ[i]? = some (some (.int a))) (h : Ev rInt te σ F H b) (k : ∀ F' H', Gr M0 F H F' H' → D.nx (σ.set i (some (.int (f a b)))) H') : tAug i te (ipI f) D σ H :=
  ⟨.int a, hx, h F H (.refl e) _ fun v F' H' g r => ⟨a, b, rfl, r, k F' H' g⟩⟩
/-- a new list that may change: x = [] -/
theorem x_nil {i : Nat} (e : Ex F H) (k : ∀ l, H l = none → D.nx (σ.set i (some (.ref l))) (upd H l (.lst []))) : tAsg (tLst tNil) (gName i) D σ H := ⟨Nat.zero_le _, fun l hl => k l hl⟩
/-- a new list that may change, by what it evaluates to -/
theorem x_setM {i : Nat} (e : Ex F H) (h : Ev (rLst R) te σ F H xs) (k : ∀ v F' H', Gr M0 F H F' H' → rLst R F' v xs → D.nx (σ.set i (some v)) H') : tAsg te (gName i) D σ H := x_set e h k
/-- xs.append(e) -/
theorem x_app {l : Addr} {vs : List V} (e : Ex F H) (ha : Ev rRef ta σ F H l) (hl : H l = some (.lst vs)) (h : Ev R te σ F H x) (hz : vs.length < sizeLine)
    (k : ∀ v F' H', Gr M0 F H F' H' → R F' v x → H' l = some (.lst vs) → D.nx σ (upd H' l (.lst (vs ++ [v])))) : tDrop (tBM K "list" rAppend ta (tCons te tNil)) D σ H :=
  ha F H (.refl e) _ fun v F1 H1 g1 r1 => by
    cases (show v = _ from r1)
    exact ⟨.inl ⟨rfl, vs, SqL.of (g1.hx _ _ hl)⟩, h F1 H1 g1 _ fun w F2 H2 g2 r2 => ⟨l, vs, w, rfl, rfl, g2.hx _ _ (g1.hx _ _ hl), hz, k w F2 H2 (g1.trans g2) r2 (g2.hx _ _ (g1.hx _ _ hl))⟩⟩
/-- xs.extend(e) -/
theorem x_ext {l : Addr} {vs : List V} {zs : List α} (e : Ex F H) (ha : Ev rRef ta σ F H l) (hl : H l = some (.lst vs)) (h : Ev (rLst R) te σ F H zs) (hz : vs.length + zs.length ≤ sizeLine)
    (k : ∀ ws F' H', Gr M0 F H F' H' → Paired (R F') ws zs → H' l = some (.lst vs) → D.nx σ (upd H' l (.lst (vs ++ ws)))) : tDrop (tBM K "list" rExtend ta (tCons te tNil)) D σ H :=
  ha F H (.refl e) _ fun v F1 H1 g1 r1 => by
    cases (show v = _ from r1)
    exact ⟨.inl ⟨rfl, vs, SqL.of (g1.hx _ _ hl)⟩, h F1 H1 g1 _ fun w F2 H2 g2 ⟨b, ws, eb, hb, p⟩ => by
      subst eb
      exact ⟨l, b, vs, ws, rfl, rfl, g2.hx _ _ (g1.hx _ _ hl), g2.fh _ _ hb, by rw [p.length]; exact hz, k ws F2 H2 (g1.trans g2) p (g2.hx _ _ (g1.hx _ _ hl))⟩⟩
/-- xs[i] = e -/
theorem x_setI {l : Addr} {vs : List V} {n : Nat} (e : Ex F H) (h : Ev R te σ F H x) (ha : Ev rRef ta σ F H l) (hi : Ev rInt tb σ F H (n : Int)) (hl : H l = some (.lst vs)) (hn : n < vs.length)
    (k : ∀ v F' H', Gr M0 F H F' H' → R F' v x → H' l = some (.lst vs) → D.nx σ (upd H' l (.lst (vs.set n v)))) (m : Mn R := by infer_instance) : tAsg te (gSub ta tb rSetL) D σ H :=
  h F H (.refl e) _ fun v F1 H1 g1 r1 => ha F1 H1 g1 _ fun w F2 H2 g2 r2 => hi F2 H2 (g1.trans g2) _ fun w3 F3 H3 g3 r3 => by
    refine ⟨l, vs, (n : Int), n, r2, r3, g3.hx _ _ (g2.hx _ _ (g1.hx _ _ hl)), ?_, k v F3 H3 ((g1.trans g2).trans g3) (m.mono (g2.ff.trans g3.ff) r1) (g3.hx _ _ (g2.hx _ _ (g1.hx _ _ hl)))⟩
    unfold ixN
    rw [if_pos (by omega), if_pos (by omega)]
    rfl

/-! ### loops -/
/-- for x in a frozen list -/
theorem x_forL {n : Nat} (e : Ex F H) (h : Ev (rLst R) tl σ F H xs) (Pv : Nat → St → Hp → Hp → Prop) (h0 : ∀ F1 H1, Gr M0 F H F1 H1 → Pv 0 σ F1 H1)
    (hs : ∀ F1, Ex F F1 → ∀ i x v σ' F' H', xs[i]? = some x → Ex F1 F' → Ex F' H' → R F' v x → Pv i σ' F' H' →
      ts { D with nx := fun σ2 H2 => ∃ F2, Ex F1 F2 ∧ Ex F2 H2 ∧ Pv (i + 1) σ2 F2 H2, ct := fun σ2 H2 => ∃ F2, Ex F1 F2 ∧ Ex F2 H2 ∧ Pv (i + 1) σ2 F2 H2, bk := D.nx } (σ'.set n (some v)) H')
    (hd : ∀ σ' F' H', Ex F F' → Ex F' H' → Pv xs.length σ' F' H' → D.nx σ' H') (m : Mn R := by infer_instance) : tFor (iList K tl) (gName n) ts D σ H := by
  refine h F H (.refl e) _ fun v F1 H1 g1 ⟨a, vs, ea, hl, p⟩ => ⟨a, ea, ⟨vs, SqL.of (g1.fh _ _ hl)⟩, ?_⟩
  refine for_list (xs := vs) (fun i σ' H' => ∃ F', Ex F1 F' ∧ Ex F' H' ∧ Pv i σ' F' H') ⟨F1, Ex.refl _, g1.fh, h0 F1 H1 g1⟩ (fun i σ' H' _ ⟨F', e1, e2, _⟩ => SqL.of (e2 _ _ (e1 _ _ hl))) ?_ ?_
  · rintro i w σ' H' hi ⟨F', e1, e2, pv⟩
    obtain ⟨x, hx, rx⟩ := Paired.getL p hi
    exact hs F1 g1.ff i x w σ' F' H' hx e1 e2 (m.mono e1 rx) pv
  · rintro σ' H' ⟨F', e1, e2, pv⟩
    rw [p.length] at pv
    exact hd σ' F' H' (g1.ff.trans e1) e2 pv
theorem x_forT {n : Nat} (e : Ex F H) (h : Ev (rTup R) tl σ F H xs) (Pv : Nat → St → Hp → Hp → Prop) (h0 : ∀ F1 H1, Gr M0 F H F1 H1 → Pv 0 σ F1 H1)
    (hs : ∀ F1, Ex F F1 → ∀ i x v σ' F' H', xs[i]? = some x → Ex F1 F' → Ex F' H' → R F' v x → Pv i σ' F' H' →
      ts { D with nx := fun σ2 H2 => ∃ F2, Ex F1 F2 ∧ Ex F2 H2 ∧ Pv (i + 1) σ2 F2 H2, ct := fun σ2 H2 => ∃ F2, Ex F1 F2 ∧ Ex F2 H2 ∧ Pv (i + 1) σ2 F2 H2, bk := D.nx } (σ'.set n (some v)) H')
    (hd : ∀ σ' F' H', Ex F F' → Ex F' H' → Pv xs.length σ' F' H' → D.nx σ' H') (m : Mn R := by infer_instance) : tFor (iTup K tl) (gName n) ts D σ H := by
  refine h F H (.refl e) _ fun v F1 H1 g1 ⟨a, vs, ea, hl, p⟩ => ⟨a, ea, ⟨vs, SqT.of (g1.fh _ _ hl)⟩, ?_⟩
  refine for_tup (xs := vs) (fun i σ' H' => ∃ F', Ex F1 F' ∧ Ex F' H' ∧ Pv i σ' F' H') ⟨F1, Ex.refl _, g1.fh, h0 F1 H1 g1⟩ (fun i σ' H' _ ⟨F', e1, e2, _⟩ => SqT.of (e2 _ _ (e1 _ _ hl))) ?_ ?_
  · rintro i w σ' H' hi ⟨F', e1, e2, pv⟩
    obtain ⟨x, hx, rx⟩ := Paired.getL p hi
    exact hs F1 g1.ff i x w σ' F' H' hx e1 e2 (m.mono e1 rx) pv
  · rintro σ' H' ⟨F', e1, e2, pv⟩
    rw [p.length] at pv
    exact hd σ' F' H' (g1.ff.trans e1) e2 pv
/-- for k in range(n) -/
theorem x_forR {j : Nat} {n : Nat} {ta : TE} (e : Ex F H) (h : Ev rInt ta σ F H (n : Int)) (hn : n ≤ 1000000000) (Pv : Nat → St → Hp → Hp → Prop) (h0 : ∀ F1 H1, Gr M0 F H F1 H1 → Pv 0 σ F1 H1)
    (hs : ∀ F1, Ex F F1 → ∀ i σ' F' H', i < n → Ex F1 F' → Ex F' H' → Pv i σ' F' H' →
      ts { D with nx := fun σ2 H2 => ∃ F2, Ex F1 F2 ∧ Ex F2 H2 ∧ Pv (i + 1) σ2 F2 H2, ct := fun σ2 H2 => ∃ F2, Ex F1 F2 ∧ Ex F2 H2 ∧ Pv (i + 1) σ2 F2 H2, bk := D.nx } (σ'.set j (some (.int (i : Int)))) H')
    (hd : ∀ σ' F' H', Ex F F' → Ex F' H' → Pv n σ' F' H' → D.nx σ' H') : tFor (iRng1 (tCons ta tNil)) (gName j) ts D σ H := by
  refine h F H (.refl e) _ fun v F1 H1 g1 ea => ⟨(n : Int), by rw [show v = _ from ea], by omega, by omega, ?_⟩
  rw [Int.toNat_natCast]
  refine for_range (lo := 0) (n := n) (fun i σ' H' => ∃ F', Ex F1 F' ∧ Ex F' H' ∧ Pv i σ' F' H') ⟨F1, Ex.refl _, g1.fh, h0 F1 H1 g1⟩ ?_ ?_
  · rintro i σ' H' hi ⟨F', e1, e2, pv⟩
    have e0 : (0 : Int) + (i : Int) = (i : Int) := Int.zero_add _
    show ts _ (σ'.set j (some (.int ((0 : Int) + (i : Int))))) H'
    rw [e0]
    exact hs F1 g1.ff i σ' F' H' hi e1 e2 pv
  · rintro σ' H' ⟨F', e1, e2, pv⟩
    exact hd σ' F' H' (g1.ff.trans e1) e2 pv
/-- for k in range(a, b) -/
theorem x_forR2 {j : Nat} {a b : Nat} {ta tb : TE} (e : Ex F H) (h : Ev rInt ta σ F H (a : Int)) (h2 : Ev rInt tb σ F H (b : Int)) (hn : b ≤ 1000000000) (ha : a ≤ 1000000000) (Pv : Nat → St → Hp → Hp → Prop) (h0 : ∀ F1 H1, Gr M0 F H F1 H1 → Pv 0 σ F1 H1)
    (hs : ∀ F1, Ex F F1 → ∀ i σ' F' H', a + i < b → Ex F1 F' → Ex F' H' → Pv i σ' F' H' →
      ts { D with nx := fun σ2 H2 => ∃ F2, Ex F1 F2 ∧ Ex F2 H2 ∧ Pv (i + 1) σ2 F2 H2, ct := fun σ2 H2 => ∃ F2, Ex F1 F2 ∧ Ex F2 H2 ∧ Pv (i + 1) σ2 F2 H2, bk := D.nx } (σ'.set j (some (.int ((a + i : Nat) : Int)))) H')
    (hd : ∀ σ' F' H', Ex F F' → Ex F' H' → Pv (b - a) σ' F' H' → D.nx σ' H') : tFor (iRng2 (tCons ta (tCons tb tNil))) (gName j) ts D σ H := by
  refine h F H (.refl e) _ fun v F1 H1 g1 ea => h2 F1 H1 g1 _ fun w F2 H2 g2 eb => ⟨(a : Int), (b : Int), by rw [show v = _ from ea, show w = _ from eb], ⟨by omega, by omega, by omega, by omega⟩, ?_⟩
  rw [show ((b : Int) - (a : Int)).toNat = b - a by omega]
  refine for_range (lo := (a : Int)) (n := b - a) (fun i σ' H' => ∃ F', Ex F2 F' ∧ Ex F' H' ∧ Pv i σ' F' H') ⟨F2, Ex.refl _, g2.fh, h0 F2 H2 (g1.trans g2)⟩ ?_ ?_
  · rintro i σ' H' hi ⟨F', e1, e2, pv⟩
    have e0 : ((a : Int) + (i : Int)) = ((a + i : Nat) : Int) := by omega
    show ts _ (σ'.set j (some (.int ((a : Int) + (i : Int))))) H'
    rw [e0]
    exact hs F2 (g1.ff.trans g2.ff) i σ' F' H' (by omega) e1 e2 pv
  · rintro σ' H' ⟨F', e1, e2, pv⟩
    exact hd σ' F' H' ((g1.ff.trans g2.ff).trans e1) e2 pv
/-- while: a test that is pure, a measure -/
theorem x_while {tc : TT} (e : Ex F H) (Pv : Nat → St → Hp → Hp → Prop) (m0 : Nat) (h0 : Pv m0 σ F H) (b : Nat → St → Hp → Hp → Bool) (hc : ∀ m σ' F' H', Ex F F' → Ex F' H' → Pv m σ' F' H' → EvT tc σ' F' H' (b m σ' F' H'))
    (st : ∀ m σ' F' H' F2 H2, Gr M0 F' H' F2 H2 → Pv m σ' F' H' → Pv m σ' F2 H2)
    (hs : ∀ m σ' F' H' F2 H2, Ex F F' → Gr M0 F' H' F2 H2 → b m σ' F' H' = true → Pv m σ' F' H' → Pv m σ' F2 H2 → 
      ts { D with nx := fun σ2 H2 => ∃ F2 m', Ex F F2 ∧ Ex F2 H2 ∧ m' < m ∧ Pv m' σ2 F2 H2, ct := fun σ2 H2 => ∃ F2 m', Ex F F2 ∧ Ex F2 H2 ∧ m' < m ∧ Pv m' σ2 F2 H2, bk := D.nx } σ' H2)
    (hd : ∀ m σ' F' H' F2 H2, Ex F F' → Gr M0 F' H' F2 H2 → b m σ' F' H' = false → Pv m σ' F' H' → Pv m σ' F2 H2 → D.nx σ' H2) : tWhile tc ts D σ H := by
  refine ⟨fun m σ' H' => ∃ F', Ex F F' ∧ Ex F' H' ∧ Pv m σ' F' H', ⟨m0, F, Ex.refl _, e, h0⟩, ?_⟩
  rintro m σ' H' ⟨F', e1, e2, pv⟩
  refine hc m σ' F' H' e1 e2 pv F' H' (.refl e2) _ fun F2 H2 g => ?_
  cases q : b m σ' F' H' with
  | true => exact ⟨_, fun σ2 H3 ⟨F3, m', a1, a2, a3, a4⟩ => ⟨m', a3, F3, a1, a2, a4⟩, hs m σ' F' H' F2 H2 e1 g q pv (st _ _ _ _ _ _ g pv)⟩
  | false => exact hd m σ' F' H' F2 H2 e1 g q pv (st _ _ _ _ _ _ g pv)

/-! ### comprehensions -/
/-- [elt for x in list], of each item an answer -/
theorem ev_lc {n : Nat} {vs : List Nat} (h : Ev (rLst R) tl σ F H xs) (hlen : ys.length = xs.length) (hz : xs.length ≤ 1000000) (hw : ∀ v, wipe ((wipe σ vs).set n (some v)) vs = wipe σ vs)
    (he : ∀ (i : Nat) x y v F1 H1, xs[i]? = some x → ys[i]? = some y → Gr M0 F H F1 H1 → R F1 v x → Ev S te ((wipe σ vs).set n (some v)) F1 H1 y) (m : Mn R := by infer_instance) (m' : Mn S := by infer_instance) : Ev (rLst S) (tLc (iList K tl) (gName n) tYes te vs) σ F H ys := by
  intro F1 H1 g1 Q q
  refine h F1 H1 g1 _ fun v F2 H2 g2 ⟨a, ws, ea, hl, p⟩ => ⟨a, ea, ⟨ws, SqL.of (g2.fh _ _ hl)⟩, fun D hD => ?_⟩
  refine lc_list (xs := ws) (fun i H' => ∃ F' us, Gr M0 F2 H2 F' H' ∧ F' D = none ∧ H' D = some (.lst us) ∧ Paired (S F') us (ys.take i)) ⟨F2, [], .loc g2.fh hD, g2.fh.free hD, upd_same, .nil⟩ (fun i H' _ ⟨F', us, g, _⟩ => SqL.of (g.fh _ _ (g.ff _ _ hl))) ?_ ?_
  · rintro i w H' hi ⟨F', us, g, fD, hD', pu⟩
    obtain ⟨x, hx, rx⟩ := Paired.getL p hi
    have hil : i < ys.length := by rw [hlen]; exact (List.getElem?_eq_some_iff.mp hx).1
    have hy : ys[i]? = some ys[i] := List.getElem?_eq_getElem hil
    refine ⟨hw w, ?_⟩
    refine he i x ys[i] w F' H' hx hy ((g1.trans g2).trans g) (m.mono g.ff rx) F' H' (.refl g.fh) _ fun u F3 H3 g3 r3 => ?_
    refine ⟨us, g3.hx _ _ hD', ?_, F3, us ++ [u], (g.trans g3).set' (g3.nn hD' fD) (.inl hD), g3.nn hD' fD, upd_same, ?_⟩
    · rw [pu.length, List.length_take, sizeLine_eq]
      omega
    · rw [List.take_add_one, hy]
      exact (Paired.up g3.ff pu).snoc r3
  · rintro H' ⟨F', us, g, fD, hD', pu⟩
    rw [p.length, ← hlen, List.take_length] at pu
    exact q _ _ _ (g2.trans (g.frz hD' (g2.fh.free hD) (.inl hD))) ⟨D, us, rfl, upd_same, Paired.up (g.fh.frz hD' fD) pu⟩
theorem ev_lcT {n : Nat} {vs : List Nat} (h : Ev (rTup R) tl σ F H xs) (hlen : ys.length = xs.length) (hz : xs.length ≤ 1000000) (hw : ∀ v, wipe ((wipe σ vs).set n (some v)) vs = wipe σ vs)
    (he : ∀ (i : Nat) x y v F1 H1, xs[i]? = some x → ys[i]? = some y → Gr M0 F H F1 H1 → R F1 v x → Ev S te ((wipe σ vs).set n (some v)) F1 H1 y) (m : Mn R := by infer_instance) (m' : Mn S := by infer_instance) : Ev (rLst S) (tLc (iTup K tl) (gName n) tYes te vs) σ F H ys := by
  intro F1 H1 g1 Q q
  refine h F1 H1 g1 _ fun v F2 H2 g2 ⟨a, ws, ea, hl, p⟩ => ⟨a, ea, ⟨ws, SqT.of (g2.fh _ _ hl)⟩, fun D hD => ?_⟩
  refine lc_tup (xs := ws) (fun i H' => ∃ F' us, Gr M0 F2 H2 F' H' ∧ F' D = none ∧ H' D = some (.lst us) ∧ Paired (S F') us (ys.take i)) ⟨F2, [], .loc g2.fh hD, g2.fh.free hD, upd_same, .nil⟩ (fun i H' _ ⟨F', us, g, _⟩ => SqT.of (g.fh _ _ (g.ff _ _ hl))) ?_ ?_
  · rintro i w H' hi ⟨F', us, g, fD, hD', pu⟩
    obtain ⟨x, hx, rx⟩ := Paired.getL p hi
    have hil : i < ys.length := by rw [hlen]; exact (List.getElem?_eq_some_iff.mp hx).1
    have hy : ys[i]? = some ys[i] := List.getElem?_eq_getElem hil
    refine ⟨hw w, ?_⟩
    refine he i x ys[i] w F' H' hx hy ((g1.trans g2).trans g) (m.mono g.ff rx) F' H' (.refl g.fh) _ fun u F3 H3 g3 r3 => ?_
    refine ⟨us, g3.hx _ _ hD', ?_, F3, us ++ [u], (g.trans g3).set' (g3.nn hD' fD) (.inl hD), g3.nn hD' fD, upd_same, ?_⟩
    · rw [pu.length, List.length_take, sizeLine_eq]
      omega
    · rw [List.take_add_one, hy]
      exact (Paired.up g3.ff pu).snoc r3
  · rintro H' ⟨F', us, g, fD, hD', pu⟩
    rw [p.length, ← hlen, List.take_length] at pu
    exact q _ _ _ (g2.trans (g.frz hD' (g2.fh.free hD) (.inl hD))) ⟨D, us, rfl, upd_same, Paired.up (g.fh.frz hD' fD) pu⟩
/-- [elt for k in range(n)] -/
theorem ev_lcR {j n : Nat} {vs : List Nat} {ta : TE} (h : Ev rInt ta σ F H (n : Int)) (hlen : ys.length = n) (hz : n ≤ 1000000) (hw : ∀ v, wipe ((wipe σ vs).set j (some v)) vs = wipe σ vs)
    (he : ∀ i y F1 H1, i < n → ys[i]? = some y → Gr M0 F H F1 H1 → Ev S te ((wipe σ vs).set j (some (.int (i : Int)))) F1 H1 y) (m' : Mn S := by infer_instance) : Ev (rLst S) (tLc (iRng1 (tCons ta tNil)) (gName j) tYes te vs) σ F H ys := by
  intro F1 H1 g1 Q q
  refine h F1 H1 g1 _ fun v F2 H2 g2 ea => ⟨(n : Int), by rw [show v = _ from ea], by omega, by omega, fun D hD => ?_⟩
  rw [Int.toNat_natCast]
  refine lc_range (lo := 0) (n := n) (fun i H' => ∃ F' us, Gr M0 F2 H2 F' H' ∧ F' D = none ∧ H' D = some (.lst us) ∧ Paired (S F') us (ys.take i)) ⟨F2, [], .loc g2.fh hD, g2.fh.free hD, upd_same, .nil⟩ ?_ ?_
  · rintro i H' hi ⟨F', us, g, fD, hD', pu⟩
    have hil : i < ys.length := by rw [hlen]; exact hi
    have hy : ys[i]? = some ys[i] := List.getElem?_eq_getElem hil
    have e0 : (0 : Int) + (i : Int) = (i : Int) := Int.zero_add _
    rw [e0]
    refine ⟨hw _, ?_⟩
    refine he i ys[i] F' H' hi hy ((g1.trans g2).trans g) F' H' (.refl g.fh) _ fun u F3 H3 g3 r3 => ?_
    refine ⟨us, g3.hx _ _ hD', ?_, F3, us ++ [u], (g.trans g3).set' (g3.nn hD' fD) (.inl hD), g3.nn hD' fD, upd_same, ?_⟩
    · rw [pu.length, List.length_take, sizeLine_eq]
      omega
    · rw [List.take_add_one, hy]
      exact (Paired.up g3.ff pu).snoc r3
  · rintro H' ⟨F', us, g, fD, hD', pu⟩
    rw [← hlen, List.take_length] at pu
    exact q _ _ _ (g2.trans (g.frz hD' (g2.fh.free hD) (.inl hD))) ⟨D, us, rfl, upd_same, Paired.up (g.fh.frz hD' fD) pu⟩
end

/-! ### promises of pure defs -/
def Sp1 {α β : Type} (R : Rp α) (Pre : α → Prop) (S : Rp β) (f : α → β) : Sp := fun vs H Q _ => ∃ F v x, vs = [v] ∧ Ex F H ∧ R F v x ∧ Pre x ∧ ∀ w F' H', Gr M0 F H F' H' → S F' w (f x) → Q w H'
def Sp2 {α β γ : Type} (R : Rp α) (S : Rp β) (Pre : α → β → Prop) (T : Rp γ) (f : α → β → γ) : Sp := fun vs H Q _ => ∃ F v w x y, vs = [v, w] ∧ Ex F H ∧ R F v x ∧ S F w y ∧ Pre x y ∧ ∀ z F' H', Gr M0 F H F' H' → T F' z (f x y) → Q z H'
def Sp3 {α β γ δ : Type} (R : Rp α) (S : Rp β) (T : Rp γ) (Pre : α → β → γ → Prop) (U : Rp δ) (f : α → β → γ → δ) : Sp := fun vs H Q _ => ∃ F v w u x y z, vs = [v, w, u] ∧ Ex F H ∧ R F v x ∧ S F w y ∧ T F u z ∧ Pre x y z ∧ ∀ r F' H', Gr M0 F H F' H' → U F' r (f x y z) → Q r H'
def Sp4 {α β γ δ ε : Type} (R : Rp α) (S : Rp β) (T : Rp γ) (U : Rp δ) (Pre : α → β → γ → δ → Prop) (W : Rp ε) (f : α → β → γ → δ → ε) : Sp := fun vs H Q _ => ∃ F v w u u' x y z z', vs = [v, w, u, u'] ∧ Ex F H ∧ R F v x ∧ S F w y ∧ T F u z ∧ U F u' z' ∧ Pre x y z z' ∧ ∀ r F' H', Gr M0 F H F' H' → W F' r (f x y z z') → Q r H'
section
variable {K : PySem.W.Frag} {σ : St} {F H F' H' : Hp} {ta tb tc td te tl : TE} {α β γ δ ε : Type} {R : Rp α} {S : Rp β} {T : Rp γ} {U : Rp δ} {W : Rp ε} {x : α} {y : β} {z : γ} {u : δ} {E : XK}
theorem ev_call1 {Pre : α → Prop} {f : α → β} (ha : Ev R ta σ F H x) (p : Pre x) : Ev S (tCall (Sp1 R Pre S f) [] E (tCons ta tNil)) σ F H (f x) := fun F1 H1 g1 Q q =>
  ha F1 H1 g1 _ fun v F2 H2 g2 r => ⟨F2, v, x, rfl, g2.fh, r, p, fun w F' H' g k => q w F' H' (g2.trans g) k⟩
theorem ev_call2 {Pre : α → β → Prop} {f : α → β → γ} (ha : Ev R ta σ F H x) (hb : Ev S tb σ F H y) (p : Pre x y) (m : Mn R := by infer_instance) : Ev T (tCall (Sp2 R S Pre T f) [] E (tCons ta (tCons tb tNil))) σ F H (f x y) := fun F1 H1 g1 Q q =>
  ha F1 H1 g1 _ fun v F2 H2 g2 r => hb F2 H2 (g1.trans g2) _ fun w F3 H3 g3 r3 => ⟨F3, v, w, x, y, rfl, g3.fh, m.mono g3.ff r, r3, p, fun w F' H' g k => q w F' H' ((g2.trans g3).trans g) k⟩
theorem ev_call3 {Pre : α → β → γ → Prop} {f : α → β → γ → δ} (ha : Ev R ta σ F H x) (hb : Ev S tb σ F H y) (hc : Ev T tc σ F H z) (p : Pre x y z) (m : Mn R := by infer_instance) (n : Mn S := by infer_instance) : Ev U (tCall (Sp3 R S T Pre U f) [] E (tCons ta (tCons tb (tCons tc tNil)))) σ F H (f x y z) := fun F1 H1 g1 Q q =>
  ha F1 H1 g1 _ fun v F2 H2 g2 r => hb F2 H2 (g1.trans g2) _ fun w F3 H3 g3 r3 => hc F3 H3 ((g1.trans g2).trans g3) _ fun w' F4 H4 g4 r4 =>
    ⟨F4, v, w, w', x, y, z, rfl, g4.fh, m.mono (g3.ff.trans g4.ff) r, n.mono g4.ff r3, r4, p, fun w F' H' g k => q w F' H' (((g2.trans g3).trans g4).trans g) k⟩
theorem ev_call4 {Pre : α → β → γ → δ → Prop} {f : α → β → γ → δ → ε} (ha : Ev R ta σ F H x) (hb : Ev S tb σ F H y) (hc : Ev T tc σ F H z) (hd : Ev U td σ F H u) (p : Pre x y z u) (m : Mn R := by infer_instance) (n : Mn S := by infer_instance) (o : Mn T := by infer_instance) :
    Ev W (tCall (Sp4 R S T U Pre W f) [] E (tCons ta (tCons tb (tCons tc (tCons td tNil))))) σ F H (f x y z u) := fun F1 H1 g1 Q q =>
  ha F1 H1 g1 _ fun v F2 H2 g2 r => hb F2 H2 (g1.trans g2) _ fun w F3 H3 g3 r3 => hc F3 H3 ((g1.trans g2).trans g3) _ fun w' F4 H4 g4 r4 => hd F4 H4 (((g1.trans g2).trans g3).trans g4) _ fun w'' F5 H5 g5 r5 =>
    ⟨F5, v, w, w', w'', x, y, z, u, rfl, g5.fh, m.mono ((g3.ff.trans g4.ff).trans g5.ff) r, n.mono (g4.ff.trans g5.ff) r3, o.mono g5.ff r4, r5, p, fun w F' H' g k => q w F' H' ((((g2.trans g3).trans g4).trans g5).trans g) k⟩
/-- instances: what stands at the address -/
class IsI {α : Type} (R : Rp α) (C : Addr) (m : Str) : Prop where
  at_ : ∀ {F v x}, R F v x → ∃ a dx fs, v = .ref a ∧ F a = some (.ins C dx fs) ∧ fs.lookup m = none
theorem ev_meth0 {C : Addr} {m : Str} {Pre : α → Prop} {f : α → β} [c : IsI R C m] (ha : Ev R ta σ F H x) (p : Pre x) : Ev S (tMeth C m (Sp1 R Pre S f) [] E ta tNil) σ F H (f x) := fun F1 H1 g1 Q q =>
  ha F1 H1 g1 _ fun v F2 H2 g2 r => by
    obtain ⟨a, dx, fs, e, h, l⟩ := c.at_ r
    exact ⟨a, dx, fs, e, g2.fh _ _ h, l, F2, v, x, rfl, g2.fh, r, p, fun w F' H' g k => q w F' H' (g2.trans g) k⟩
theorem ev_meth1 {C : Addr} {m : Str} {Pre : α → β → Prop} {f : α → β → γ} [c : IsI R C m] (ha : Ev R ta σ F H x) (hb : Ev S tb σ F H y) (p : Pre x y) (m' : Mn R := by infer_instance) : Ev T (tMeth C m (Sp2 R S Pre T f) [] E ta (tCons tb tNil)) σ F H (f x y) := fun F1 H1 g1 Q q =>
  ha F1 H1 g1 _ fun v F2 H2 g2 r => by
    obtain ⟨a, dx, fs, e, h, l⟩ := c.at_ r
    exact ⟨a, dx, fs, e, g2.fh _ _ h, l, hb F2 H2 (g1.trans g2) _ fun w F3 H3 g3 r3 => ⟨F3, v, w, x, y, rfl, g3.fh, m'.mono g3.ff r, r3, p, fun w F' H' g k => q w F' H' ((g2.trans g3).trans g) k⟩⟩
theorem ev_meth2 {C : Addr} {m : Str} {Pre : α → β → γ → Prop} {f : α → β → γ → δ} [c : IsI R C m] (ha : Ev R ta σ F H x) (hb : Ev S tb σ F H y) (hc : Ev T tc σ F H z) (p : Pre x y z) (m' : Mn R := by infer_instance) (n' : Mn S := by infer_instance) : Ev U (tMeth C m (Sp3 R S T Pre U f) [] E ta (tCons tb (tCons tc tNil))) σ F H (f x y z) := fun F1 H1 g1 Q q =>
  ha F1 H1 g1 _ fun v F2 H2 g2 r => by
    obtain ⟨a, dx, fs, e, h, l⟩ := c.at_ r
    exact ⟨a, dx, fs, e, g2.fh _ _ h, l, hb F2 H2 (g1.trans g2) _ fun w F3 H3 g3 r3 => hc F3 H3 ((g1.trans g2).trans g3) _ fun w' F4 H4 g4 r4 => ⟨F4, v, w, w', x, y, z, rfl, g4.fh, m'.mono (g3.ff.trans g4.ff) r, n'.mono g4.ff r3, r4, p, fun w F' H' g k => q w F' H' (((g2.trans g3).trans g4).trans g) k⟩⟩
/-- o.f -/
class IsF {α : Type} {β : outParam Type} (R : Rp α) (K : PySem.W.Frag) (f : Str) (S : outParam (Rp β)) (p : outParam (α → β)) : Prop where
  at_ : ∀ {F v x}, R F v x → ∃ a C dx fs w, v = .ref a ∧ F a = some (.ins C dx fs) ∧ Cls K C ∧ NoAttr K C f ∧ fs.lookup f = some w ∧ S F w (p x)
theorem ev_fld {f : Str} {p : α → β} (ha : Ev R ta σ F H x) (c : IsF R K f S p := by infer_instance) : Ev S (tFld K ta f) σ F H (p x) := fun F1 H1 g1 Q q =>
  ha F1 H1 g1 _ fun v F2 H2 g2 r => by
    obtain ⟨a, C, dx, fs, w, e, h, c1, c2, l, s⟩ := c.at_ r
    exact ⟨a, C, dx, fs, w, e, g2.fh _ _ h, c1, c2, l, q w F2 H2 g2 s⟩

/-! ### isinstance -/
theorem ev_isi {T : String} {b : Bool} (ha : Ev R ta σ F H x) (ht : ∀ F H v, Ex F H → R F v x → ∃ t, TyX K H v t ∧ PySem.W.kitOne K t (.type T) = some b) : Ev rBl (tCB (rIsi K) (tCons ta (tCons (tC (.ty T)) tNil))) σ F H b := fun F1 H1 g1 Q q =>
  ha F1 H1 g1 _ fun v F2 H2 g2 r => by
    obtain ⟨t, h1, h2⟩ := ht F2 H2 v g2.fh r
    exact ⟨v, .ty T, t, .type T, b, rfl, .ty T, h1, h2, q _ F2 H2 g2 rfl⟩
theorem kit_same {t : Value} : PySem.W.kitOne K t t = some true := if_pos (beq_self_eq_true _)
theorem ev_isIntInt {i : Int} (ha : Ev rInt ta σ F H i) : Ev rBl (tCB (rIsi K) (tCons ta (tCons (tC (.ty "int")) tNil))) σ F H true := ev_isi ha fun F H v _ r => ⟨_, .base (by cases (show v = _ from r); exact .int i), kit_same⟩
theorem ev_isIntBool {i : Int} (ha : Ev rInt ta σ F H i) : Ev rBl (tCB (rIsi K) (tCons ta (tCons (tC (.ty "bool")) tNil))) σ F H false := ev_isi ha fun F H v _ r => ⟨_, .base (by cases (show v = _ from r); exact .int i), kit_ty (by decide +kernel)⟩
theorem ev_isTup {xs : List α} (ha : Ev (rTup R) ta σ F H xs) : Ev rBl (tCB (rIsi K) (tCons ta (tCons (tC (.ty "tuple")) tNil))) σ F H true := ev_isi ha fun F H v e r => ⟨_, .base (by obtain ⟨a, vs, rfl, h, _⟩ := r; exact .tup (e _ _ h)), kit_same⟩
theorem ev_isLst {xs : List α} (ha : Ev (rLst R) ta σ F H xs) : Ev rBl (tCB (rIsi K) (tCons ta (tCons (tC (.ty "list")) tNil))) σ F H true := ev_isi ha fun F H v e r => ⟨_, .base (by obtain ⟨a, vs, rfl, h, _⟩ := r; exact .lst (e _ _ h)), kit_same⟩
theorem ev_isStr {s : Str} (ha : Ev rStr ta σ F H s) : Ev rBl (tCB (rIsi K) (tCons ta (tCons (tC (.ty "str")) tNil))) σ F H true := ev_isi ha fun F H v _ r => ⟨_, .base (by cases (show v = _ from r); exact .str s), kit_same⟩
end
end El
namespace El
open PySem PySem.Spec L2
theorem rpm {α : Type} {R : Rp α} {H H' : Hp} {v : V} {x : α} (e : Ex H H') (r : R H v x) (m : Mn R) : R H' v x := m.mono e r
theorem sn {D : Ends} {σ : St} {H : Hp} (h : D.nx σ H) : tNext D σ H := h
theorem sq {t u : TS} {D : Ends} {σ : St} {H : Hp} (h : t { D with nx := u D } σ H) : tSeq t u D σ H := h
theorem x_fld {K : PySem.W.Frag} {σ : St} {F H : Hp} {ta tv : TE} {α : Type} {R : Rp α} {x : α} {D : Ends} {f : Str} {a C dx : Addr} {fs : List (Str × V)} (e : Ex F H) (h : Ev R tv σ F H x) (ha : Ev rRef ta σ F H a) (ho : H a = some (.ins C dx fs)) (c : Cls K C) (n : NoAttr K C f) (l : fs.length < 1000)
    (k : ∀ v F' H', Gr M0 F H F' H' → R F' v x → H' a = some (.ins C dx fs) → D.nx σ (upd H' a (.ins C dx (putF f v fs)))) (m : Mn R := by infer_instance) : sFld K ta tv f D σ H :=
  h F H (.refl e) _ fun v F1 H1 g1 r1 => ha F1 H1 g1 _ fun w F2 H2 g2 r2 => ⟨a, C, dx, fs, r2, g2.hx _ _ (g1.hx _ _ ho), c, n, l, k v F2 H2 (g1.trans g2) (m.mono g2.ff r1) (g2.hx _ _ (g1.hx _ _ ho))⟩
end El

set_option Elab.async false
set_option linter.all false
set_option maxRecDepth 100000
set_option maxHeartbeats 2000000
namespace El
open PySem PySem.Spec L2
/-! ### len of an instance with its own __len__ -/
def rLenOwn (C : Addr) (sp : Sp) (E : XK) : List V → Hp → VK → Prop := fun xs H Q => ∃ a dx fs, xs = [V.ref a] ∧ H a = some (.ins C dx fs) ∧ sp [.ref a] H (fun v H' => ∃ n : Int, v = .int n ∧ 0 ≤ n ∧ n < 2 ^ 63 ∧ Q v H') E
theorem call_lenOwn {X : Cx} {CX : CXT} {n : Nat} {C f : Addr} {fd : FuncData} {ps : List Str} {sp : Sp} {E : XK} (F : FnOk X.prog X.w X.K X.mg X.base CX n f fd ps sp) (hr : Room (n + 1) X.A) (hs : PySem.W.findIn X.K (.ref C) "__len__" = some (some (.ref f))) (hf : PySem.W.isFn X.K (.ref f) = true)
    (hb : Binds X.K fd ps []) (hx : Passes CX X E) : CallR X (.builtin "len") (rLenOwn C sp E) := by
  intro pins s σ H xs us Q I r h
  obtain ⟨a, dx, fs, rfl, ha, hsp⟩ := h
  cases r with
  | cons r1 r2 =>
    cases r2
    cases r1
    obtain ⟨mA, J, _⟩ := ins_get I.hok ha
    obtain ⟨od, J, _⟩ := J.look
    obtain ⟨m, hF⟩ := I.fr
    refine PySem.W.len_K hF I.ok.mod.kin J hs hf ?_
    have e0 : Env0 X.prog X.w X.K X.mg X.base X.A.in1 X.stack s H := by
      have e := I.env0
      exact ⟨e.frames, e.mod, e.bs, e.bsz, e.funs, e.frf, e.hok, e.bare⟩
    have hl := F.len _ _ _ _ hsp
    have r2 : Vals [V.ref a] [Value.ref a] := .cons rfl .nil
    refine wpAny_call (codeAny_mono (F.run X.A.in1 X.stack s H ⟨[.ref a], []⟩ [.ref a] [.ref a] _ E hr.in1 e0 (by
      have := hb s [.ref a] I.kIn (by simpa using hl)
      simpa using this) r2 hsp) fun r s' hq => ?_)
    cases r with
    | error e => exact hx pins σ H s e s' I hq
    | ok fl =>
      cases fl with
      | ret w =>
        obtain ⟨z, H', I', rz, k, ez, h0, h1, q⟩ := I.after hq
        subst ez
        obtain ⟨t, rfl⟩ := rz
        exact ⟨⟨h0, h1⟩, .int k, H', I'.tok _, ⟨_, rfl⟩, q⟩
      | next => exact False.elim hq
      | brk => exact False.elim hq
      | cont => exact False.elim hq
section
variable {K : PySem.W.Frag} {σ : St} {F H : Hp} {ta : TE} {α : Type} {R : Rp α} {x : α} {E : XK}
theorem ev_lenOwn {C : Addr} {f : α → Nat} [c : IsI R C "__len__"] (ha : Ev R ta σ F H x) (hz : f x < 2 ^ 62) : Ev rInt (tCB (rLenOwn C (Sp1 R (fun _ => True) rNat f) E) (tCons ta tNil)) σ F H (f x : Int) := fun F1 H1 g1 Q q =>
  ha F1 H1 g1 _ fun v F2 H2 g2 r => by
    obtain ⟨a, dx, fs, e, h, l⟩ := c.at_ r
    subst e
    exact ⟨a, dx, fs, rfl, g2.fh _ _ h, F2, _, x, rfl, g2.fh, r, True.intro, fun w F' H' g k => ⟨(f x : Int), k, by omega, by omega, q w F' H' (g2.trans g) k⟩⟩
end
/-! ### len(set(xs)) of ints -/
def tLenSetJ (K : PySem.W.Frag) (ta : TE) : TE := fun σ H Q => ta σ H fun x H1 => ∃ (l : Addr) (ns : List Int), x = .ref l ∧ SqT K H1 l (ns.map V.int) ∧ ns.length ≤ 4000 ∧ ∀ out : List Int, out.Nodup → (∀ k, k ∈ out ↔ k ∈ ns) → Q (.int (out.length : Nat)) H1
open PyProof.Rows in
theorem pe_lenSetJ {X : Cx} {a : Expr} {ta : TE} {p p2 q pos : Pos} (hg : Gl X "len") (hm : X.mg "len" = none) (hg2 : Gl X "set") (hm2 : X.mg "set" = none) (ha : PE X a ta) (hc : X.calm = true := by rfl)
    (na : starEach [a] X.env = (false, eval a X.env) :: starEach [] X.env := by rfl) : PE X (.Call (.Name "len" p) [.Call (.Name "set" p2) [a] [] q] [] pos) (tLenSetJ X.K ta) := by
  refine ⟨fun pins s σ H Q I h => ?_⟩
  refine Call_ (ld_blt I hg hm boot_len ?_)
  refine PyProof.Rows.callWith_builtin1 (PyProof.Rows.args_cons ?_ rfl) rfl rfl
  refine Call_ (ld_blt I hg2 hm2 boot_set ?_)
  refine PyProof.Rows.callWith_type1 (PyProof.Rows.args_cons (thn (ha.run pins s σ H _ I h) fun v s1 ⟨x, H1, I1, r1, q1⟩ => PyProof.Rows.args_nil ?_) na) na rfl
  obtain ⟨l, ns, rfl, hq, hl, q1⟩ := q1
  cases r1
  obtain ⟨its, r, pt, hz⟩ := I1.tuple hq
  have hi : PyProof.Rows.IntsAre its.toArray.toList ns := ints_of_vals r
  refine call_set_tupI ns (I1.ok.hd hc) (show s1.heap.IsTuple l its.toArray from pt) hi (by unfold scanBound; omega) fun h' tk c R1 hcn k => ?_
  refine PyProof.Rows.args_nil ?_
  obtain ⟨o, es, ep, t, ho, hex, hdt, g, nd, hm3, hb, hf, hn, hr, hl2⟩ := R1
  have I2 : Inv X pins σ H1 { s1 with heap := h', toks := tk } := I1.kept fun b o e => k b o e
  have hlen : (es.toList.map keyOf).length = es.size := by rw [List.length_map, Array.length_toList]
  refine call_len_set ho hex hdt hf (by omega) ⟨.int es.size, H1, I2.tok _, ⟨_, rfl⟩, ?_⟩
  have := q1 (es.toList.map keyOf) nd fun j => by rw [← hm3 j, decide_eq_true_eq]
  rw [hlen] at this
  exact this
/-- the things of a list, each once -/
def uniq (ns : List Nat) : List Nat := ns.foldr (fun n l => if n ∈ l then l else n :: l) []
theorem mem_uniq {k : Nat} : ∀ {ns : List Nat}, k ∈ uniq ns ↔ k ∈ ns
  | [] => Iff.rfl
  | n :: ns => by
    show k ∈ (if n ∈ uniq ns then uniq ns else n :: uniq ns) ↔ _
    split
    · rename_i h
      rw [mem_uniq, List.mem_cons]
      exact ⟨.inr, fun z => z.elim (fun e => by rw [e]; exact mem_uniq.mp h) id⟩
    · rw [List.mem_cons, List.mem_cons, mem_uniq]
theorem nodup_uniq : ∀ ns : List Nat, (uniq ns).Nodup
  | [] => List.nodup_nil
  | n :: ns => by
    show (if n ∈ uniq ns then uniq ns else n :: uniq ns).Nodup
    split
    · exact nodup_uniq ns
    · rename_i h
      exact List.nodup_cons.mpr ⟨h, nodup_uniq ns⟩
theorem nodup_len_of_mem {α : Type} [DecidableEq α] {as bs : List α} (ha : as.Nodup) (hb : bs.Nodup) (h : ∀ k, k ∈ as ↔ k ∈ bs) : as.length = bs.length := by
  have p : as.Perm bs := (List.perm_ext_iff_of_nodup ha hb).mpr h
  exact p.length_eq
section
variable {K : PySem.W.Frag} {σ : St} {F H : Hp} {ta : TE}
theorem ev_lenSet {ns : List Nat} (ha : Ev (rTup rNat) ta σ F H ns) (hz : ns.length ≤ 4000) : Ev rInt (tLenSetJ K ta) σ F H ((uniq ns).length : Int) := fun F1 H1 g1 Q q =>
  ha F1 H1 g1 _ fun v F2 H2 g2 ⟨a, vs, e, hl, p⟩ => ⟨a, ns.map fun n : Nat => (n : Int), e, by rw [← nats_paired p]; exact SqT.of (g2.fh _ _ hl), by rw [List.length_map]; exact hz, fun out nd hm => by
    have : out.length = ((uniq ns).map fun n : Nat => (n : Int)).length := by
      refine nodup_len_of_mem nd ?_ fun k => ?_
      · refine List.Pairwise.map _ ?_ (nodup_uniq ns)
        intro a b h e
        exact h (by omega)
      · rw [hm, List.mem_map, List.mem_map]
        exact ⟨fun ⟨n, h, e⟩ => ⟨n, mem_uniq.mpr h, e⟩, fun ⟨n, h, e⟩ => ⟨n, mem_uniq.mp h, e⟩⟩
    rw [this, List.length_map]
    exact q _ F2 H2 g2 rfl⟩
end
/-! ### the laws' own source of draws -/
/-- a source at a: so many more draws may be made of it -/
def Src (H : Hp) (a : Addr) (N : Nat) : Prop := ∃ n c k : Int, H a = some (.lst [.int n, .int c, .int k]) ∧ 0 ≤ n ∧ 0 ≤ c ∧ c < 2147483648 ∧ 0 ≤ k ∧ k + N ≤ 1099511627776
theorem Src.le {H : Hp} {a : Addr} {N M : Nat} (h : Src H a N) (l : M ≤ N) : Src H a M := by
  obtain ⟨n, c, k, h1, h2, h3, h4, h5, h6⟩ := h
  exact ⟨n, c, k, h1, h2, h3, h4, h5, by omega⟩
theorem Src.hn {H : Hp} {a : Addr} {N : Nat} (h : Src H a N) : H a ≠ none := by
  obtain ⟨n, c, k, h1, _⟩ := h
  rw [h1]
  exact fun z => nomatch z
theorem Src.ex {H H' : Hp} {a : Addr} {N : Nat} (h : Src H a N) (e : H' a = H a) : Src H' a N := by
  unfold Src
  rw [e]
  exact h
theorem Src.gr {F H F' H' : Hp} {a : Addr} {N : Nat} (h : Src H a N) (g : Gr M0 F H F' H') : Src H' a N := by
  obtain ⟨n, c, k, h1, h2⟩ := h
  exact ⟨n, c, k, g.hx _ _ h1, h2⟩
theorem Src.upd {H : Hp} {a b : Addr} {o : HO} {N : Nat} (h : Src H a N) (e : a ≠ b) : Src (upd H b o) a N := h.ex (upd_ne e)
end El

set_option Elab.async false
set_option linter.all false
set_option maxRecDepth 100000
set_option maxHeartbeats 2000000
namespace El
open PySem PySem.Spec L2
section
variable {K : PySem.W.Frag} {σ : St} {F H F' H' : Hp} {ta tb tc te tl : TE} {tt t u : TT} {α β γ δ ε : Type} {R : Rp α} {S : Rp β} {xs : List α} {n : Nat} {vs : List Nat}
theorem ev_lcm (f : α → β) (h : Ev (rLst R) tl σ F H xs) (hz : xs.length ≤ 1000000) (hw : ∀ v, wipe ((wipe σ vs).set n (some v)) vs = wipe σ vs)
    (he : ∀ (i : Nat) x v F1 H1, xs[i]? = some x → Gr M0 F H F1 H1 → R F1 v x → Ev S te ((wipe σ vs).set n (some v)) F1 H1 (f x)) (m : Mn R := by infer_instance) (m' : Mn S := by infer_instance) : Ev (rLst S) (tLc (iList K tl) (gName n) tYes te vs) σ F H (xs.map f) :=
  ev_lc h (List.length_map _) hz hw fun i x y v F1 H1 hx hy g r => by
    rw [List.getElem?_map, hx] at hy
    cases hy
    exact he i x v F1 H1 hx g r
theorem ev_lcTm (f : α → β) (h : Ev (rTup R) tl σ F H xs) (hz : xs.length ≤ 1000000) (hw : ∀ v, wipe ((wipe σ vs).set n (some v)) vs = wipe σ vs)
    (he : ∀ (i : Nat) x v F1 H1, xs[i]? = some x → Gr M0 F H F1 H1 → R F1 v x → Ev S te ((wipe σ vs).set n (some v)) F1 H1 (f x)) (m : Mn R := by infer_instance) (m' : Mn S := by infer_instance) : Ev (rLst S) (tLc (iTup K tl) (gName n) tYes te vs) σ F H (xs.map f) :=
  ev_lcT h (List.length_map _) hz hw fun i x y v F1 H1 hx hy g r => by
    rw [List.getElem?_map, hx] at hy
    cases hy
    exact he i x v F1 H1 hx g r
theorem ev_lcRm (f : Nat → β) {j : Nat} {ta : TE} (h : Ev rInt ta σ F H (n : Int)) (hz : n ≤ 1000000) (hw : ∀ v, wipe ((wipe σ vs).set j (some v)) vs = wipe σ vs)
    (he : ∀ i F1 H1, i < n → Gr M0 F H F1 H1 → Ev S te ((wipe σ vs).set j (some (.int (i : Int)))) F1 H1 (f i)) (m' : Mn S := by infer_instance) : Ev (rLst S) (tLc (iRng1 (tCons ta tNil)) (gName j) tYes te vs) σ F H ((List.range n).map f) :=
  ev_lcR h (by rw [List.length_map, List.length_range]) hz hw fun i y F1 H1 hi hy g => by
    rw [List.getElem?_map, List.getElem?_range hi] at hy
    cases hy
    exact he i F1 H1 hi g
theorem mem_of_at {xs : List α} {i : Nat} {x : α} (h : xs[i]? = some x) : x ∈ xs := List.mem_of_getElem? h
end

/-! ### turns -/
structure Tn where
  many : Nat
  maps : List (List Nat)
  h0 : 1 ≤ many
  h1 : many ≤ 32
  h2 : 1 ≤ maps.length
  h3 : maps.length ≤ 200
  h4 : ∀ m ∈ maps, m.length = many ∧ ∀ x ∈ m, x < many
def rTurns (C : Addr) : Rp Tn := fun H v T => ∃ a dx l, v = .ref a ∧ H a = some (.ins C dx [("many", .int (T.many : Int)), ("maps", l)]) ∧ rLst (rTup rNat) H l T.maps
instance {C : Addr} : Mn (rTurns C) := ⟨fun e ⟨a, dx, l, h1, h2, h3⟩ => ⟨a, dx, l, h1, e _ _ h2, Mn.mono e h3⟩⟩
instance {C : Addr} : NotN (rTurns C) := ⟨fun ⟨_, _, _, h, _⟩ e => by rw [h] at e; cases e⟩
instance {C : Addr} : IsI (rTurns C) C "__len__" := ⟨fun ⟨a, dx, l, h1, h2, h3⟩ => ⟨a, dx, _, h1, h2, rfl⟩⟩
theorem fld_many {K : PySem.W.Frag} {C : Addr} (c : Cls K C) (n : NoAttr K C "many") : IsF (rTurns C) K "many" rNat Tn.many := ⟨fun ⟨a, dx, l, h1, h2, h3⟩ => ⟨a, C, dx, _, _, h1, h2, c, n, rfl, rfl⟩⟩
theorem fld_maps {K : PySem.W.Frag} {C : Addr} (c : Cls K C) (n : NoAttr K C "maps") : IsF (rTurns C) K "maps" (rLst (rTup rNat)) Tn.maps := ⟨fun ⟨a, dx, l, h1, h2, h3⟩ => ⟨a, C, dx, _, _, h1, h2, c, n, rfl, h3⟩⟩
/-- what C(..) makes of turns: the promise of __init__ -/
def SpTurns (C : Addr) : Sp := fun vs H Q _ => ∃ (F : Hp) (a dx : Addr) (l : V) (T : Tn), vs = [.ref a, .int (T.many : Int), l] ∧ Ex F H ∧ F a = none ∧ H a = some (.ins C dx []) ∧ rLst (rTup rNat) F l T.maps ∧
  ∀ F' H', Gr (M1 a) F H F' H' → rTurns C F' (.ref a) T → Q .non H'
theorem ev_Turns {σ : St} {F H : Hp} {ta tb : TE} {C : Addr} {T : Tn} {E : XK} (ha : Ev rInt ta σ F H (T.many : Int)) (hb : Ev (rLst (rTup rNat)) tb σ F H T.maps) : Ev (rTurns C) (tMake C (SpTurns C) [] E (tCons ta (tCons tb tNil))) σ F H T := fun F1 H1 g1 Q q =>
  ha F1 H1 g1 _ fun v F2 H2 g2 r => hb F2 H2 (g1.trans g2) _ fun w F3 H3 g3 r3 => fun x dx nx ndx nex => by
    cases (show v = _ from r)
    have h1 : (upd H3 dx (.own x)) x = none := by rw [upd_ne nex.symm]; exact nx
    have e1 : Ex F3 (upd (upd H3 dx (.own x)) x (.ins C dx [])) := (g3.fh.mut (g3.fh.free ndx)).mut (g3.fh.free nx)
    refine ⟨F3, x, dx, w, T, rfl, e1, g3.fh.free nx, upd_same, r3, fun F' H' g k => ⟨rfl, q _ F' H' ((g2.trans g3).trans ⟨g.ff, g.fh, fun b o _ h => ?_, fun b _ h n => ?_, fun b h => ?_⟩) k⟩⟩
    · have b1 : b ≠ x := fun z => by subst z; rw [nx] at h; cases h
      have b2 : b ≠ dx := fun z => by subst z; rw [ndx] at h; cases h
      exact g.hh b o b1 (by rw [upd_ne b1, upd_ne b2]; exact h)
    · have b1 : b ≠ x := fun z => h (z ▸ nx)
      have b2 : b ≠ dx := fun z => h (z ▸ ndx)
      exact g.nw b b1 (by rw [upd_ne b1, upd_ne b2]; exact h) n
    · have b1 : b ≠ x := fun z => h (z ▸ nx)
      have b2 : b ≠ dx := fun z => h (z ▸ ndx)
      exact g.dm b (by rw [upd_ne b1, upd_ne b2]; exact h)
/-- mirrors -/
def idMap (n : Nat) : List Nat := List.range n
def thenM (a b : List Nat) : List Nat := a.map fun x => b.getD x 0
def metB (a : List Nat) : Bool := decide ((uniq a).length = 1)
def mapFrom (T : Tn) (m : List Nat) (w : List Nat) : List Nat := w.foldl (fun m s => thenM m (T.maps.getD s [])) m
def mapW (T : Tn) (w : List Nat) : List Nat := mapFrom T (idMap T.many) w
/-- a map of the turns' places -/
def IsMap (n : Nat) (m : List Nat) : Prop := m.length = n ∧ ∀ x ∈ m, x < n
theorem isMap_id (n : Nat) : IsMap n (idMap n) := ⟨List.length_range, fun x h => List.mem_range.mp h⟩
theorem isMap_then {n : Nat} {a b : List Nat} (ha : IsMap n a) (hb : IsMap n b) : IsMap n (thenM a b) := by
  refine ⟨by unfold thenM; rw [List.length_map]; exact ha.1, fun x h => ?_⟩
  obtain ⟨y, hy, rfl⟩ := List.mem_map.mp h
  have hl : y < b.length := by rw [hb.1]; exact ha.2 y hy
  rw [List.getD_eq_getElem?_getD, List.getElem?_eq_getElem hl]
  exact hb.2 _ (List.getElem_mem hl)
theorem Tn.isMap (T : Tn) {s : Nat} (h : s < T.maps.length) : IsMap T.many (T.maps.getD s []) := by
  rw [List.getD_eq_getElem?_getD, List.getElem?_eq_getElem h]
  exact T.h4 _ (List.getElem_mem h)
theorem isMap_from {T : Tn} : ∀ {w : List Nat} {m : List Nat}, IsMap T.many m → (∀ s ∈ w, s < T.maps.length) → IsMap T.many (mapFrom T m w)
  | [], _, h, _ => h
  | s :: w, m, h, hs => isMap_from (w := w) (m := thenM m (T.maps.getD s [])) (isMap_then h (T.isMap (hs s List.mem_cons_self))) fun s' h' => hs s' (List.mem_cons_of_mem _ h')
theorem isMap_mapW {T : Tn} {w : List Nat} (hs : ∀ s ∈ w, s < T.maps.length) : IsMap T.many (mapW T w) := isMap_from (isMap_id _) hs
theorem getD_at {α : Type} {xs : List α} {i : Nat} {d : α} (h : i < xs.length) : xs[i]? = some (xs.getD i d) := by
  rw [List.getD_eq_getElem?_getD, List.getElem?_eq_getElem h]
  rfl
end El

set_option Elab.async false
set_option linter.all false
set_option maxRecDepth 100000
set_option maxHeartbeats 2000000
namespace El
open PySem PySem.Spec L2
section
variable {X : Cx} (K : PySem.W.Frag)
theorem kfld {e : Expr} {f : Str} {pos : Pos} {ta : TE} (he : PE X e ta) (hb : attributeBase e f X.env (eval e X.env) = eval e X.env) (hK : X.K = K := by rfl) : PE X (.Attribute e f pos) (tFld K ta f) := by
  subst hK
  exact pe_fld he hb
theorem kset {o value : Expr} {f : Str} {pos pos' : Pos} {ta tv : TE} (ha : PE X o ta) (hv : PE X value tv) (hs : swapsWith value (some (.Attribute o f pos')) pos.line X.env = pure false) (hK : X.K = K := by rfl) : PS X (.Assign [.Attribute o f pos'] value pos) (sFld K ta tv f) := by
  subst hK
  exact ps_fld ha hv hs
theorem kaug {o value : Expr} {f : Str} {pos tpos : Pos} {ta tv : TE} {op : Operator} {rd : V → V → Hp → VK → Prop} (ha : PE X o ta) (hv : PE X value tv) (hop : InOp X op rd) (hK : X.K = K := by rfl) : PS X (.AugAssign (.Attribute o f tpos) op value pos) (sFldAug K ta tv rd f) := by
  subst hK
  exact ps_fldaug ha hv hop
theorem klist {tg l : Expr} {tl : TE} (hl : PE X l tl) (hK : X.K = K := by rfl) : PI X tg l (iList K tl) := by
  subst hK
  exact pi_list hl
theorem ktup {tg l : Expr} {tl : TE} (hl : PE X l tl) (hK : X.K = K := by rfl) : PI X tg l (iTup K tl) := by
  subst hK
  exact pi_tup hl
theorem kptup {es : List Expr} {k : Nat} {t : TGs} {n : Nat} {pos : Pos} (hc : X.calm = true) (h : PGs X es t)
    (hn : (assignEach es X.env).length = n := by rfl) (hst : (assignEach es X.env).findIdx? (·.1) = none := by rfl) (hK : X.K = K := by rfl) : PG X (.Tuple es k pos) (gTup K n t) := by
  subst hK
  exact pg_tup hc h hn hst
theorem klenset {a : Expr} {ta : TE} {p p2 q pos : Pos} (hg : Gl X "len") (hm : X.mg "len" = none) (hg2 : Gl X "set") (hm2 : X.mg "set" = none) (ha : PE X a ta) (hc : X.calm = true := by rfl)
    (na : starEach [a] X.env = (false, eval a X.env) :: starEach [] X.env := by rfl) (hK : X.K = K := by rfl) : PE X (.Call (.Name "len" p) [.Call (.Name "set" p2) [a] [] q] [] pos) (tLenSetJ K ta) := by
  subst hK
  exact pe_lenSetJ hg hm hg2 hm2 ha hc na
theorem kenum {e : Expr} {ta : TA} {p pos tpos : Pos} {elts : List Expr} {kk : Nat} (hg : Gl X "enumerate") (hm : X.mg "enumerate" = none) (ha : PA X [e] ta) (hs : starEach [e] X.env = [(false, eval e X.env)] := by rfl) (hK : X.K = K := by rfl) :
    PI X (.Tuple elts kk tpos) (.Call (.Name "enumerate" p) [e] [] pos) (iEnum K ta) := by
  subst hK
  exact pi_enum hg hm ha hs
theorem kbm0 {T : String} {name : Str} {id : String} {r : V → List V → Hp → VK → Prop} {o : Expr} {to : TE} {apos cpos : Pos} (pa : PlainAttrs T) (slot : Slot T name id) (hty : typeOf (.builtin id) = pure (.type "method_descriptor")) (hm : MtR X id r) (ho : PE X o to)
    (hbase : attributeBase o name X.env (eval o X.env) = eval o X.env := by rfl) (hline : (apos.endLine == cpos.line) = true := by rfl) (hK : X.K = K := by rfl) : PE X (.Call (.Attribute o name apos) [] [] cpos) (tBM0 K T r to) := by
  subst hK
  exact pe_bm0 pa slot hty hm ho hbase hline
theorem kbm {T : String} {name : Str} {id : String} {r : V → List V → Hp → VK → Prop} {o e : Expr} {es : List Expr} {to : TE} {t : TA} {apos cpos : Pos} (pa : PlainAttrs T) (slot : Slot T name id) (hty : typeOf (.builtin id) = pure (.type "method_descriptor")) (hm : MtR X id r) (ho : PE X o to) (ha : PA X (e :: es) t)
    (hbase : attributeBase o name X.env (eval o X.env) = eval o X.env := by rfl)
    (hfew : ((backTo cpos (starEach (e :: es) X.env)).all (fun x => !x.1) && (backToKw cpos (keywordEach [] X.env)).all (fun x => x.1.isSome)
      && decide ((e :: es).length + ([] : List Keyword).length + (if ([] : List Keyword).isEmpty then 0 else 1) < 30)) = true := by rfl) 
    (hline : (apos.endLine == cpos.line) = true := by rfl) (hs : starEach (e :: es) X.env = (false, eval e X.env) :: starEach es X.env := by rfl) (hplain : (backTo cpos (starEach es X.env)).any (·.1) = false := by rfl) (hK : X.K = K := by rfl) : PE X (.Call (.Attribute o name apos) (e :: es) [] cpos) (tBM K T r to t) := by
  subst hK
  exact pe_bm pa slot hty hm ho ha hbase hfew hline hs hplain
end
end El

namespace El
open PySem PySem.Spec L2
section
variable {K : PySem.W.Frag} {σ : St} {F H F' H' : Hp} {ta tb tc te tl : TE} {α β : Type} {R : Rp α} {S : Rp β} {x : α} {y : β}
/-- o.f of an instance that may change -/
theorem ev_fldM {f : Str} {a C dx : Addr} {fs : List (Str × V)} {w : V} (ha : Ev rRef ta σ F H a) (ho : H a = some (.ins C dx fs)) (c : Cls K C) (n : NoAttr K C f) (l : fs.lookup f = some w) (s : S F w y) (m : Mn S := by infer_instance) : Ev S (tFld K ta f) σ F H y := fun F1 H1 g1 Q q =>
  ha F1 H1 g1 _ fun v F2 H2 g2 r => ⟨a, C, dx, fs, w, r, g2.hx _ _ (g1.hx _ _ ho), c, n, l, q w F2 H2 g2 (m.mono (g1.ff.trans g2.ff) s)⟩
end
/-! ### draws -/
structure DrAt (CD CT : Addr) (F H : Hp) (a l : Addr) (T : Tn) (m : List Nat) (n : Nat) (ws : List V) : Prop where
  ne : a ≠ l
  fa : F a = none
  fl : F l = none
  ha : ∃ dx tv fv, H a = some (.ins CD dx [("turns", tv), ("found", fv), ("many", .int (n : Int)), ("told", .ref l)]) ∧ rTurns CT F tv T ∧ rTup rNat F fv m
  hl : H l = some (.lst ws)
theorem DrAt.gr {CD CT : Addr} {F H F' H' : Hp} {a l : Addr} {T : Tn} {m : List Nat} {n : Nat} {ws : List V} (d : DrAt CD CT F H a l T m n ws) (g : Gr M0 F H F' H') : DrAt CD CT F' H' a l T m n ws := by
  obtain ⟨ne, fa, fl, ⟨dx, tv, fv, h1, h2, h3⟩, hl⟩ := d
  exact ⟨ne, g.nn h1 fa, g.nn hl fl, ⟨dx, tv, fv, g.hx _ _ h1, Mn.mono g.ff h2, Mn.mono g.ff h3⟩, g.hx _ _ hl⟩
def drStep (T : Tn) (p : List Nat × Nat) (s : Nat) : List Nat × Nat := if metB p.1 = true then p else (thenM (T.maps.getD s []) p.1, p.2 + 1)
def drRun (T : Tn) (w : List Nat) : List Nat × Nat := w.foldl (drStep T) (idMap T.many, 0)
def plc (m : List Nat) : Option Nat := if metB m = true then some (m.headD 0) else none
def drawnM (T : Tn) (w : List Nat) : Option (Nat × Nat) := match plc (drRun T w).1 with
  | none => none
  | some p => some (p, (drRun T w).2)
/-- what begins a draw -/
def SpDraw (CD CT : Addr) : Sp := fun vs H Q _ => ∃ (F : Hp) (a dx : Addr) (tv : V) (T : Tn), vs = [.ref a, tv] ∧ Ex F H ∧ F a = none ∧ H a = some (.ins CD dx []) ∧ rTurns CT F tv T ∧
  ∀ l F' H', Gr (M1 a) F H F' H' → H l = none → DrAt CD CT F' H' a l T (idMap T.many) 0 [] → Q .non H'
def SpElder (CD CT : Addr) : Sp := fun vs H Q _ => ∃ (F : Hp) (a l : Addr) (T : Tn) (m : List Nat) (n : Nat) (ws : List V) (s : Nat), vs = [.ref a, .int (s : Int)] ∧ Ex F H ∧ DrAt CD CT F H a l T m n ws ∧ IsMap T.many m ∧ s < T.maps.length ∧ ws.length ≤ 1000000 ∧
  ∀ v F' H', Gr (fun b => b = a ∨ b = l) F H F' H' → DrAt CD CT F' H' a l T (drStep T (m, n) s).1 (drStep T (m, n) s).2 (ws ++ [.int (s : Int)]) → rOpt rNat F' v (plc (drStep T (m, n) s).1) → Q v H'
def SpPlace (CD CT : Addr) : Sp := fun vs H Q _ => ∃ (F : Hp) (a l : Addr) (T : Tn) (m : List Nat) (n : Nat) (ws : List V), vs = [.ref a] ∧ Ex F H ∧ DrAt CD CT F H a l T m n ws ∧ IsMap T.many m ∧
  ∀ v F' H', Gr M0 F H F' H' → rOpt rNat F' v (plc m) → Q v H'
def SpUsed (CD CT : Addr) : Sp := fun vs H Q _ => ∃ (F : Hp) (a l : Addr) (T : Tn) (m : List Nat) (n : Nat) (ws : List V), vs = [.ref a] ∧ Ex F H ∧ DrAt CD CT F H a l T m n ws ∧
  ∀ v F' H', Gr M0 F H F' H' → rNat F' v n → Q v H'
section
variable {K : PySem.W.Frag} {σ : St} {F H F' H' : Hp} {ta : TE} {CD CT a l : Addr} {T : Tn} {m : List Nat} {n : Nat} {ws : List V} {E : XK}
theorem ev_place (ha : Ev rRef ta σ F H a) (d : DrAt CD CT F H a l T m n ws) (hm : IsMap T.many m) : Ev (rOpt rNat) (tMeth CD "place" (SpPlace CD CT) [] E ta tNil) σ F H (plc m) := fun F1 H1 g1 Q q =>
  ha F1 H1 g1 _ fun v F2 H2 g2 r => by
    cases (show v = _ from r)
    have d2 := d.gr (g1.trans g2)
    obtain ⟨dx, tv, fv, h1, h2, h3⟩ := id d2.ha
    exact ⟨a, dx, _, rfl, h1, rfl, F2, a, l, T, m, n, ws, rfl, g2.fh, d2, hm, fun v F' H' g k => q v F' H' (g2.trans g) k⟩
theorem ev_used (ha : Ev rRef ta σ F H a) (d : DrAt CD CT F H a l T m n ws) : Ev rNat (tMeth CD "used" (SpUsed CD CT) [] E ta tNil) σ F H n := fun F1 H1 g1 Q q =>
  ha F1 H1 g1 _ fun v F2 H2 g2 r => by
    cases (show v = _ from r)
    have d2 := d.gr (g1.trans g2)
    obtain ⟨dx, tv, fv, h1, h2, h3⟩ := id d2.ha
    exact ⟨a, dx, _, rfl, h1, rfl, F2, a, l, T, m, n, ws, rfl, g2.fh, d2, fun v F' H' g k => q v F' H' (g2.trans g) k⟩
end
theorem isMap_step {T : Tn} {p : List Nat × Nat} {s : Nat} (h : IsMap T.many p.1) (hs : s < T.maps.length) : IsMap T.many (drStep T p s).1 := by
  unfold drStep
  split
  · exact h
  · exact isMap_then (T.isMap hs) h
theorem isMap_run {T : Tn} {w : List Nat} (hs : ∀ s ∈ w, s < T.maps.length) : IsMap T.many (drRun T w).1 := by
  have : ∀ (w : List Nat) (p : List Nat × Nat), IsMap T.many p.1 → (∀ s ∈ w, s < T.maps.length) → IsMap T.many (w.foldl (drStep T) p).1 := fun w => by
    induction w with
    | nil => exact fun p h _ => h
    | cons s w ih => exact fun p h hs => ih _ (isMap_step h (hs s List.mem_cons_self)) fun s' h' => hs s' (List.mem_cons_of_mem _ h')
  exact this w _ (isMap_id _) hs
theorem headD_lt {n : Nat} {m : List Nat} (h : IsMap n m) (h0 : 1 ≤ n) : m.headD 0 < n := by
  cases m with
  | nil => have := h.1; simp at this; omega
  | cons a m => exact h.2 a List.mem_cons_self
theorem at0 {m : List Nat} (h : 1 ≤ m.length) : atI m 0 = some (m.headD 0) := by
  cases m with
  | nil => simp at h
  | cons a m => exact atI_natL (n := 0) rfl
end El
namespace El
open PySem PySem.Spec L2
theorem Gr.seq0 {M : Addr → Prop} {F H F1 H1 F2 H2 : Hp} (g : Gr M0 F H F1 H1) (g2 : Gr M F1 H1 F2 H2) (n : ∀ b, M b → H b = none) : Gr M0 F H F2 H2 where
  ff := g.ff.trans g2.ff
  fh := g2.fh
  hh := fun b o _ h => g2.hh b o (fun z => by rw [n b z] at h; cases h) (g.hx b o h)
  nw := fun b _ h f => g2.nw b (fun z => h (n b z)) (g.dm b h) (g.nw b (fun z => z) h f)
  dm := fun b h => g2.dm b (g.dm b h)
/-- a new instance, its dict laid -/
theorem Gr.make {F H F' H' : Hp} {x dx C : Addr} (e : Ex F H) (nx : H x = none) (ndx : H dx = none) (nex : dx ≠ x) (g : Gr (M1 x) F (upd (upd H dx (.own x)) x (.ins C dx [])) F' H') : Gr M0 F H F' H' where
  ff := g.ff
  fh := g.fh
  hh := fun b o _ h => by
    have b1 : b ≠ x := fun z => by subst z; rw [nx] at h; cases h
    have b2 : b ≠ dx := fun z => by subst z; rw [ndx] at h; cases h
    exact g.hh b o b1 (by rw [upd_ne b1, upd_ne b2]; exact h)
  nw := fun b _ h n => by
    have b1 : b ≠ x := fun z => h (z ▸ nx)
    have b2 : b ≠ dx := fun z => h (z ▸ ndx)
    exact g.nw b b1 (by rw [upd_ne b1, upd_ne b2]; exact h) n
  dm := fun b h => by
    have b1 : b ≠ x := fun z => h (z ▸ nx)
    have b2 : b ≠ dx := fun z => h (z ▸ ndx)
    exact g.dm b (by rw [upd_ne b1, upd_ne b2]; exact h)
theorem Ex.make {F H : Hp} {x dx C : Addr} (e : Ex F H) (nx : H x = none) (ndx : H dx = none) : Ex F (upd (upd H dx (.own x)) x (.ins C dx [])) := (e.mut (e.free ndx)).mut (e.free nx)
/-! reading once -/
def roLoop (t : Tn) (long : Nat) (w : List Nat) : Nat → Nat → Option Nat → Option (Nat × Nat)
  | 0, _, _ => none
  | n + 1, k, none => roLoop t long w n (k + 1) (plc (mapW t ((w.drop (k * long)).take long)))
  | n + 1, k, some s => if metB (mapW t ((w.drop (k * long)).take long)) = true then some (s, k + 1) else roLoop t long w n (k + 1) (some ((mapW t ((w.drop (k * long)).take long)).getD s 0))
def readOnceM (t : Tn) (long : Nat) (w : List Nat) : Option (Nat × Nat) := roLoop t long w (w.length / long) 0 none
end El

set_option Elab.async false
set_option linter.all false
set_option maxRecDepth 100000
set_option maxHeartbeats 2000000
namespace El
open PySem PySem.Spec L2
/-! ### what draws of a source -/
def EvS {α : Type} (a : Addr) (c : Nat) (R : Rp α) (te : TE) (σ : St) (F H : Hp) (P : α → Prop) : Prop :=
  ∀ F1 H1 N, Gr (M1 a) F H F1 H1 → F1 a = none → Src H1 a (N + c) → ∀ Q : VK, (∀ v x F2 H2, Gr (M1 a) F1 H1 F2 H2 → F2 a = none → Src H2 a N → P x → R F2 v x → Q v H2) → te σ H1 Q
def EvTS (a : Addr) (c : Nat) (tt : TT) (σ : St) (F H : Hp) (P : Bool → Prop) : Prop :=
  ∀ F1 H1 N, Gr (M1 a) F H F1 H1 → F1 a = none → Src H1 a (N + c) → ∀ Q : Bool → Hp → Prop, (∀ b F2 H2, Gr (M1 a) F1 H1 F2 H2 → F2 a = none → Src H2 a N → P b → Q b H2) → tt σ H1 Q
def SpS0 (c : Nat) {β : Type} (S : Rp β) (P : β → Prop) : Sp := fun vs H Q _ => ∃ F a N, vs = [.ref a] ∧ Ex F H ∧ F a = none ∧ Src H a (N + c) ∧
  ∀ w y F' H', Gr (M1 a) F H F' H' → F' a = none → Src H' a N → P y → S F' w y → Q w H'
def SpS1 (c : Nat) {α β : Type} (R : Rp α) (Pre : α → Prop) (S : Rp β) (P : α → β → Prop) : Sp := fun vs H Q _ => ∃ F a N v x, vs = [.ref a, v] ∧ Ex F H ∧ F a = none ∧ Src H a (N + c) ∧ R F v x ∧ Pre x ∧
  ∀ w y F' H', Gr (M1 a) F H F' H' → F' a = none → Src H' a N → P x y → S F' w y → Q w H'
def SpS2 (c : Nat) {α β γ : Type} (R : Rp α) (R2 : Rp γ) (Pre : α → γ → Prop) (S : Rp β) (P : α → γ → β → Prop) : Sp := fun vs H Q _ => ∃ F a N v u x z, vs = [.ref a, v, u] ∧ Ex F H ∧ F a = none ∧ Src H a (N + c) ∧ R F v x ∧ R2 F u z ∧ Pre x z ∧
  ∀ w y F' H', Gr (M1 a) F H F' H' → F' a = none → Src H' a N → P x z y → S F' w y → Q w H'
class SpLen (sp : Sp) (n : outParam Nat) : Prop where
  len : ∀ {vs H Q E}, sp vs H Q E → vs.length = n
section
variable {α β γ δ ε : Type} {R : Rp α} {S : Rp β} {T : Rp γ} {U : Rp δ} {W : Rp ε}
instance {p : α → Prop} {f : α → β} : SpLen (Sp1 R p S f) 1 := ⟨fun ⟨_, _, _, h, _⟩ => by rw [h]; rfl⟩
instance {p : α → β → Prop} {f : α → β → γ} : SpLen (Sp2 R S p T f) 2 := ⟨fun ⟨_, _, _, _, _, h, _⟩ => by rw [h]; rfl⟩
instance {p : α → β → γ → Prop} {f : α → β → γ → δ} : SpLen (Sp3 R S T p U f) 3 := ⟨fun ⟨_, _, _, _, _, _, _, h, _⟩ => by rw [h]; rfl⟩
instance {p : α → β → γ → δ → Prop} {f : α → β → γ → δ → ε} : SpLen (Sp4 R S T U p W f) 4 := ⟨fun ⟨_, _, _, _, _, _, _, _, _, h, _⟩ => by rw [h]; rfl⟩
instance {c : Nat} {P : β → Prop} : SpLen (SpS0 c S P) 1 := ⟨fun ⟨_, _, _, h, _⟩ => by rw [h]; rfl⟩
instance {c : Nat} {p : α → Prop} {P : α → β → Prop} : SpLen (SpS1 c R p S P) 2 := ⟨fun ⟨_, _, _, _, _, h, _⟩ => by rw [h]; rfl⟩
instance {c : Nat} {p : α → γ → Prop} {P : α → γ → β → Prop} : SpLen (SpS2 c R T p S P) 3 := ⟨fun ⟨_, _, _, _, _, _, _, h, _⟩ => by rw [h]; rfl⟩
instance {a b : Addr} : SpLen (SpDraw a b) 2 := ⟨fun ⟨_, _, _, _, _, h, _⟩ => by rw [h]; rfl⟩
instance {a b : Addr} : SpLen (SpElder a b) 2 := ⟨fun ⟨_, _, _, _, _, _, _, _, h, _⟩ => by rw [h]; rfl⟩
instance {a b : Addr} : SpLen (SpPlace a b) 1 := ⟨fun ⟨_, _, _, _, _, _, _, h, _⟩ => by rw [h]; rfl⟩
instance {a b : Addr} : SpLen (SpUsed a b) 1 := ⟨fun ⟨_, _, _, _, _, _, _, h, _⟩ => by rw [h]; rfl⟩
instance {C : Addr} : SpLen (SpTurns C) 3 := ⟨fun ⟨_, _, _, _, _, h, _⟩ => by rw [h]; rfl⟩
end
section
variable {K : PySem.W.Frag} {σ : St} {F H F' H' : Hp} {ta tb tc te tl : TE} {tt t u : TT} {α β γ δ ε : Type} {R : Rp α} {S : Rp β} {T : Rp γ} {x : α} {y : β} {z : γ} {xs : List α} {a : Addr} {c c1 c2 N : Nat} {P P1 : α → Prop} {P2 : β → Prop} {D : Ends} {ts tu : TS} {E : XK}
theorem EvS.mono {c' : Nat} {P' : α → Prop} (h : EvS a c R te σ F H P) (hp : ∀ x, P x → P' x) (hc : c ≤ c') : EvS a c' R te σ F H P' := fun F1 H1 N g fa s Q q =>
  h F1 H1 (N + (c' - c)) g fa (s.le (by omega)) Q fun v x F2 H2 g2 fa2 s2 p r => q v x F2 H2 g2 fa2 (s2.le (by omega)) (hp x p) r
theorem EvS.gr (h : EvS a c R te σ F H P) (g : Gr (M1 a) F H F' H') : EvS a c R te σ F' H' P := fun F1 H1 N g1 fa s Q q => h F1 H1 N (g.trans g1) fa s Q q
theorem Src.someO {H : Hp} (s : Src H a N) : ∃ o, H a = some o := by
  obtain ⟨n, c, k, h, _⟩ := s
  exact ⟨_, h⟩
theorem es_pure (h : ∀ F1 H1, Gr (M1 a) F H F1 H1 → F1 a = none → Ev R te σ F1 H1 x) : EvS a 0 R te σ F H (fun y => y = x) := fun F1 H1 N g fa s Q q =>
  h F1 H1 g fa F1 H1 (.refl g.fh) Q fun v F2 H2 g2 r => by
    obtain ⟨o, ho⟩ := s.someO
    exact q v x F2 H2 g2.up (g2.nn ho fa) (s.gr g2) rfl r
theorem ets_pure {b : Bool} (h : ∀ F1 H1, Gr (M1 a) F H F1 H1 → F1 a = none → EvT tt σ F1 H1 b) : EvTS a 0 tt σ F H (fun y => y = b) := fun F1 H1 N g fa s Q q =>
  h F1 H1 g fa F1 H1 (.refl g.fh) Q fun F2 H2 g2 => by
    obtain ⟨o, ho⟩ := s.someO
    exact q b F2 H2 g2.up (g2.nn ho fa) (s.gr g2) rfl
theorem es_var {i : Nat} {v : V} (h : σ[i]? = some (some v)) (r : R F v x) (m : Mn R := by infer_instance) : EvS a 0 R (tVar i) σ F H (fun y => y = x) := es_pure fun F1 H1 g _ => ev_var h (m.mono g.ff r)
theorem es_int {i : Int} : EvS a 0 rInt (tC (.int i)) σ F H (fun y => y = i) := es_pure fun _ _ _ _ => ev_int
theorem ev_lit {i : Int} {n : Nat} (h : i = (n : Int) := by rfl) : Ev rNat (tC (.int i)) σ F H n := by
  subst h
  exact ev_int
theorem es_lit {i : Int} {n : Nat} (h : i = (n : Int) := by rfl) : EvS a 0 rNat (tC (.int i)) σ F H (fun y => y = n) := es_pure fun _ _ _ _ => ev_lit h
theorem EvS.nat {P : Nat → Prop} (h : EvS a c rNat te σ F H P) : EvS a c rInt te σ F H (fun i => ∃ n : Nat, i = (n : Int) ∧ P n) := fun F1 H1 N g fa s Q q =>
  h F1 H1 N g fa s Q fun v x F2 H2 g2 fa2 s2 p r => q v (x : Int) F2 H2 g2 fa2 s2 ⟨x, rfl, p⟩ r
theorem EvS.toNat {P : Int → Prop} {P' : Nat → Prop} (h : EvS a c rInt te σ F H P) (hp : ∀ i, P i → ∃ n : Nat, i = (n : Int) ∧ P' n) : EvS a c rNat te σ F H P' := fun F1 H1 N g fa s Q q =>
  h F1 H1 N g fa s Q fun v x F2 H2 g2 fa2 s2 p r => by
    obtain ⟨n, rfl, p'⟩ := hp x p
    exact q v n F2 H2 g2 fa2 s2 p' r
/-- two parts, one behind the other -/
theorem es_two {r : R2} {P' : γ → Prop} (ha : EvS a c1 R ta σ F H P1) (hb : EvS a c2 S tb σ F H P2) (m : Mn R)
    (k : ∀ F3 H3 N v w x y (Q : VK), Ex F3 H3 → F3 a = none → Src H3 a N → P1 x → P2 y → R F3 v x → S F3 w y → (∀ u z F4 H4, Gr M0 F3 H3 F4 H4 → P' z → T F4 u z → Q u H4) → r v w H3 Q) : EvS a (c1 + c2) T (tOp r ta tb) σ F H P' := fun F1 H1 N g fa s Q q =>
  ha F1 H1 (N + c2) g fa (s.le (by omega)) _ fun v x F2 H2 g2 fa2 s2 p1 r1 => hb F2 H2 N (g.trans g2) fa2 s2 _ fun w y F3 H3 g3 fa3 s3 p2 r2 =>
    k F3 H3 N v w x y Q g3.fh fa3 s3 p1 p2 (m.mono g3.ff r1) r2 fun u z F4 H4 g4 p4 r4 => by
      obtain ⟨o, ho⟩ := s3.someO
      exact q u z F4 H4 ((g2.trans g3).trans g4.up) (g4.nn ho fa3) (s3.gr g4) p4 r4
theorem es_I0 {P1 P2 : Int → Prop} {g : Int → Int → V} {f : Int → Int → γ} (ha : EvS a c1 rInt ta σ F H P1) (hb : EvS a c2 rInt tb σ F H P2) (hz : ∀ F i j, T F (g i j) (f i j)) : EvS a (c1 + c2) T (tOp (rI0 g) ta tb) σ F H (fun z => ∃ i j, P1 i ∧ P2 j ∧ z = f i j) :=
  es_two ha hb inferInstance fun F3 H3 N v w i j Q e fa s p1 p2 r1 r2 q => ⟨i, j, r1, r2, q _ _ F3 H3 (.refl e) ⟨i, j, p1, p2, rfl⟩ (hz F3 i j)⟩
theorem es_I {P1 P2 : Int → Prop} {C : Int → Int → Prop} {g : Int → Int → V} {f : Int → Int → γ} (ha : EvS a c1 rInt ta σ F H P1) (hb : EvS a c2 rInt tb σ F H P2) (hc : ∀ i j, P1 i → P2 j → C i j) (hz : ∀ F i j, T F (g i j) (f i j)) : EvS a (c1 + c2) T (tOp (rI C g) ta tb) σ F H (fun z => ∃ i j, P1 i ∧ P2 j ∧ z = f i j) :=
  es_two ha hb inferInstance fun F3 H3 N v w i j Q e fa s p1 p2 r1 r2 q => ⟨i, j, r1, r2, hc i j p1 p2, q _ _ F3 H3 (.refl e) ⟨i, j, p1, p2, rfl⟩ (hz F3 i j)⟩
theorem es_add {P1 P2 : Int → Prop} (ha : EvS a c1 rInt ta σ F H P1) (hb : EvS a c2 rInt tb σ F H P2) : EvS a (c1 + c2) rInt (tOp (rI0 fun i j => .int (i + j)) ta tb) σ F H (fun z => ∃ i j, P1 i ∧ P2 j ∧ z = i + j) := es_I0 ha hb fun _ _ _ => rfl
theorem es_sub {P1 P2 : Int → Prop} (ha : EvS a c1 rInt ta σ F H P1) (hb : EvS a c2 rInt tb σ F H P2) : EvS a (c1 + c2) rInt (tOp (rI0 fun i j => .int (i - j)) ta tb) σ F H (fun z => ∃ i j, P1 i ∧ P2 j ∧ z = i - j) := es_I0 ha hb fun _ _ _ => rfl
theorem es_mul {P1 P2 : Int → Prop} (ha : EvS a c1 rInt ta σ F H P1) (hb : EvS a c2 rInt tb σ F H P2) (hc : ∀ i j, P1 i → P2 j → CMul i j) : EvS a (c1 + c2) rInt (tOp (rI CMul fun i j => .int (i * j)) ta tb) σ F H (fun z => ∃ i j, P1 i ∧ P2 j ∧ z = i * j) := es_I ha hb hc fun _ _ _ => rfl
theorem es_eqI {P1 P2 : Int → Prop} (ha : EvS a c1 rInt ta σ F H P1) (hb : EvS a c2 rInt tb σ F H P2) : EvS a (c1 + c2) rBl (tOp rEq ta tb) σ F H (fun z => ∃ i j, P1 i ∧ P2 j ∧ z = decide (i = j)) :=
  es_two ha hb inferInstance fun F3 H3 N v w i j Q e fa s p1 p2 r1 r2 q => by
    cases (show v = _ from r1)
    cases (show w = _ from r2)
    refine ⟨rfl, ?_⟩
    have e1 : decide (V.int i = V.int j) = decide (i = j) := by simp
    rw [e1]
    exact q _ _ F3 H3 (.refl e) ⟨i, j, p1, p2, rfl⟩ rfl
theorem es_gtI {P1 P2 : Int → Prop} (ha : EvS a c1 rInt ta σ F H P1) (hb : EvS a c2 rInt tb σ F H P2) : EvS a (c1 + c2) rBl (tOp (rI0 fun i j => .bl (decide (j < i))) ta tb) σ F H (fun z => ∃ i j, P1 i ∧ P2 j ∧ z = decide (j < i)) := es_I0 ha hb fun _ _ _ => rfl
/-- an item of a frozen list, at a drawn place -/
theorem es_ixL {P2 : Int → Prop} (ha : ∀ F1 H1, Gr (M1 a) F H F1 H1 → F1 a = none → Ev (rLst R) ta σ F1 H1 xs) (hb : EvS a c rInt tb σ F H P2) (h : ∀ i, P2 i → ∃ x, atI xs i = some x) (m : Mn R := by infer_instance) : EvS a c R (tOp (rIxL K) ta tb) σ F H (fun x => ∃ i, P2 i ∧ atI xs i = some x) :=
  (es_two (es_pure ha) hb inferInstance fun F3 H3 N v w ys i Q e fa s p1 p2 ⟨b, vs, eb, hl, p⟩ r2 q => by
    subst p1
    obtain ⟨x, hx⟩ := h i p2
    obtain ⟨y, hy, ry⟩ := atI_paired p hx
    exact ⟨b, vs, i, y, eb, r2, SqL.of (e _ _ hl), hy, q y x F3 H3 (.refl e) ⟨i, p2, hx⟩ ry⟩).mono (fun _ h => h) (by omega)
theorem es_pr {P1 : α → Prop} (ha : EvS a c1 R ta σ F H P1) (hb : EvS a c2 S tb σ F H P2) (m : Mn R := by infer_instance) (n : Mn S := by infer_instance) : EvS a (c1 + c2) (rPr R S) (tTup (tCons ta (tCons tb tNil))) σ F H (fun p => P1 p.1 ∧ P2 p.2) := fun F1 H1 N g fa s Q q =>
  ha F1 H1 (N + c2) g fa (s.le (by omega)) _ fun v x F2 H2 g2 fa2 s2 p1 r1 => hb F2 H2 N (g.trans g2) fa2 s2 _ fun w y F3 H3 g3 fa3 s3 p2 r2 => ⟨by show 2 ≤ sizeLine; decide, fun B hB => by
    have g4 : Gr M0 F3 H3 (upd F3 B (.tup [v, w])) (upd H3 B (.tup [v, w])) := .new g3.fh hB
    obtain ⟨o, ho⟩ := s3.someO
    exact q _ (x, y) _ _ ((g2.trans g3).trans g4.up) (g4.nn ho fa3) (s3.gr g4) ⟨p1, p2⟩ ⟨B, v, w, rfl, upd_same, m.mono (g3.ff.trans g4.ff) r1, n.mono g4.ff r2⟩⟩
theorem es_tupL {P : List α → Prop} (ha : EvS a c (rLst R) ta σ F H P) (m : Mn R := by infer_instance) : EvS a c (rTup R) (tCB (rTupS K) (tCons ta tNil)) σ F H P := fun F1 H1 N g fa s Q q =>
  ha F1 H1 N g fa s _ fun v x F2 H2 g2 fa2 s2 p ⟨b, vs, e, hl, pr⟩ => ⟨b, vs, by rw [e], .inl ⟨SqL.of (g2.fh _ _ hl), fun B hB => by
    have g4 : Gr M0 F2 H2 (upd F2 B (.tup vs)) (upd H2 B (.tup vs)) := .new g2.fh hB
    obtain ⟨o, ho⟩ := s2.someO
    exact q _ x _ _ (g2.trans g4.up) (g4.nn ho fa2) (s2.gr g4) p ⟨B, vs, rfl, upd_same, Paired.up g4.ff pr⟩⟩⟩
/-! calls -/
theorem es_call0 {i : Nat} (hv : σ[i]? = some (some (.ref a))) : EvS a c S (tCall (SpS0 c S P2) [] E (tCons (tVar i) tNil)) σ F H P2 := fun F1 H1 N g fa s Q q =>
  ⟨.ref a, hv, F1, a, N, rfl, g.fh, fa, s, fun w y F' H' g' fa' s' p r => q w y F' H' g' fa' s' p r⟩
theorem es_call1 {i : Nat} {Pre : α → Prop} {P' : α → β → Prop} (hv : σ[i]? = some (some (.ref a))) (hb : EvS a c2 R tb σ F H P1) (hp : ∀ x, P1 x → Pre x) : EvS a (c2 + c) S (tCall (SpS1 c R Pre S P') [] E (tCons (tVar i) (tCons tb tNil))) σ F H (fun y => ∃ x, P1 x ∧ P' x y) := fun F1 H1 N g fa s Q q =>
  ⟨.ref a, hv, hb F1 H1 (N + c) g fa (s.le (by omega)) _ fun v x F2 H2 g2 fa2 s2 p r => ⟨F2, a, N, v, x, rfl, g2.fh, fa2, s2, r, hp x p, fun w y F' H' g' fa' s' p' r' => q w y F' H' (g2.trans g') fa' s' ⟨x, p, p'⟩ r'⟩⟩
theorem es_call2 {i : Nat} {Pre : α → γ → Prop} {P' : α → γ → β → Prop} {P3 : γ → Prop} {c3 : Nat} (hv : σ[i]? = some (some (.ref a))) (hb : EvS a c2 R tb σ F H P1) (hc : EvS a c3 T tc σ F H P3) (hp : ∀ x z, P1 x → P3 z → Pre x z) (m : Mn R := by infer_instance) : EvS a (c2 + c3 + c) S (tCall (SpS2 c R T Pre S P') [] E (tCons (tVar i) (tCons tb (tCons tc tNil)))) σ F H (fun y => ∃ x z, P1 x ∧ P3 z ∧ P' x z y) := fun F1 H1 N g fa s Q q =>
  ⟨.ref a, hv, hb F1 H1 (N + c3 + c) g fa (s.le (by omega)) _ fun v x F2 H2 g2 fa2 s2 p r => hc F2 H2 (N + c) (g.trans g2) fa2 (s2.le (by omega)) _ fun u z F3 H3 g3 fa3 s3 p3 r3 => ⟨F3, a, N, v, u, x, z, rfl, g3.fh, fa3, s3, m.mono g3.ff r, r3, hp x z p p3, fun w y F' H' g' fa' s' p' r' => q w y F' H' ((g2.trans g3).trans g') fa' s' ⟨x, z, p, p3, p'⟩ r'⟩⟩
/-! [elt for k in range(n)] -/
theorem es_lcR {j B : Nat} {vs : List Nat} {P1 : Int → Prop} {P2 : Nat → β → Prop} (h : EvS a c1 rInt ta σ F H P1) (hn : ∀ n, P1 n → 0 ≤ n ∧ n ≤ (B : Int)) (hB : B ≤ 1000000) (hw : ∀ v, wipe ((wipe σ vs).set j (some v)) vs = wipe σ vs)
    (he : ∀ i : Nat, i < B → ∀ F1 H1, Gr (M1 a) F H F1 H1 → F1 a = none → EvS a c2 S te ((wipe σ vs).set j (some (.int (i : Int)))) F1 H1 (P2 i)) (m' : Mn S := by infer_instance) :
    EvS a (c1 + B * c2) (rLst S) (tLc (iRng1 (tCons ta tNil)) (gName j) tYes te vs) σ F H (fun l => ∃ n, P1 n ∧ (l.length : Int) = n ∧ ∀ (i : Nat) x, l[i]? = some x → P2 i x) := by
  intro F1 H1 N g1 fa s Q q
  refine h F1 H1 (N + B * c2) g1 fa (s.le (by omega)) _ fun v n F2 H2 g2 fa2 s2 p ea => ?_
  obtain ⟨n0, n1⟩ := hn n p
  refine ⟨n, by rw [show v = _ from ea], by omega, by omega, fun B' hD => ?_⟩
  obtain ⟨k, hk⟩ : ∃ k : Nat, n = (k : Int) := ⟨n.toNat, by omega⟩
  subst hk
  rw [Int.toNat_natCast]
  have hne : B' ≠ a := fun z => by
    subst z
    exact s2.hn hD
  refine lc_range (lo := 0) (n := k) (fun i H' => ∃ F' us l, Gr (M1 a) F2 H2 F' H' ∧ F' a = none ∧ Src H' a (N + (B - i) * c2) ∧ F' B' = none ∧ H' B' = some (.lst us) ∧ l.length = i ∧ Paired (S F') us l ∧ ∀ (t : Nat) x, l[t]? = some x → P2 t x)
    ⟨F2, [], [], .loc g2.fh hD, fa2, (by rw [Nat.sub_zero]; exact s2.ex (upd_ne hne.symm)), g2.fh.free hD, upd_same, rfl, .nil, fun t x hx => by simp at hx⟩ ?_ ?_
  · rintro i H' hi ⟨F', us, l, g, fa', s', fD, hD', hl, pu, hP⟩
    have e0 : (0 : Int) + (i : Int) = (i : Int) := Int.zero_add _
    rw [e0]
    refine ⟨hw _, ?_⟩
    have hb : (B - i) * c2 = (B - (i + 1)) * c2 + c2 := by
      rw [show B - i = (B - (i + 1)) + 1 by omega, Nat.succ_mul]
    refine he i (by omega) F' H' ((g1.trans g2).trans g) fa' F' H' (N + (B - (i + 1)) * c2) (.refl g.fh) fa' (s'.le (by omega)) _ fun u y F3 H3 g3 fa3 s3 py r3 => ?_
    have hD3 : H3 B' = some (.lst us) := g3.hh _ _ hne hD'
    have fD3 : F3 B' = none := g3.nw B' hne (by rw [hD']; exact fun z => nomatch z) fD
    refine ⟨us, hD3, ?_, F3, us ++ [u], l ++ [y], (g.trans g3).set' fD3 (.inl hD), fa3, s3.ex (upd_ne hne.symm), fD3, upd_same, by rw [List.length_append, hl]; rfl, (Paired.up g3.ff pu).snoc r3, ?_⟩
    · rw [pu.length, hl, sizeLine_eq]
      omega
    · intro t x hx
      by_cases ht : t < l.length
      · rw [List.getElem?_append_left ht] at hx
        exact hP t x hx
      · have ht2 : t < (l ++ [y]).length := (List.getElem?_eq_some_iff.mp hx).1
        rw [List.length_append] at ht2
        have e1 : t = l.length := by simp at ht2; omega
        subst e1
        rw [List.getElem?_append_right (Nat.le_refl _), Nat.sub_self] at hx
        cases hx
        rw [hl]
        exact py
  · rintro H' ⟨F', us, l, g, fa', s', fD, hD', hl, pu, hP⟩
    exact q _ l _ _ (g2.trans (g.frz hD' (g2.fh.free hD) (.inl hD))) (by rw [upd_ne hne.symm]; exact fa') (s'.le (Nat.le_add_right _ _)) ⟨(k : Int), p, by rw [hl], hP⟩ ⟨B', us, rfl, upd_same, Paired.up (g.fh.frz hD' fD) pu⟩
theorem es_callP {i : Nat} {Pre : α → Prop} {P' : α → β → Prop} (hv : σ[i]? = some (some (.ref a))) (hb : ∀ F1 H1, Gr (M1 a) F H F1 H1 → F1 a = none → Ev R tb σ F1 H1 x) (hp : Pre x) : EvS a c S (tCall (SpS1 c R Pre S P') [] E (tCons (tVar i) (tCons tb tNil))) σ F H (fun y => P' x y) :=
  (es_call1 hv (es_pure hb) (fun z e => by rw [e]; exact hp)).mono (fun y ⟨z, e, p⟩ => by rw [← e]; exact p) (by omega)
theorem es_callP2 {i : Nat} {Pre : α → γ → Prop} {P' : α → γ → β → Prop} (hv : σ[i]? = some (some (.ref a))) (hb : ∀ F1 H1, Gr (M1 a) F H F1 H1 → F1 a = none → Ev R tb σ F1 H1 x) (hc : ∀ F1 H1, Gr (M1 a) F H F1 H1 → F1 a = none → Ev T tc σ F1 H1 z) (hp : Pre x z) (m : Mn R := by infer_instance) : EvS a c S (tCall (SpS2 c R T Pre S P') [] E (tCons (tVar i) (tCons tb (tCons tc tNil)))) σ F H (fun y => P' x z y) :=
  (es_call2 hv (es_pure hb) (es_pure hc) (fun u w e e2 => by rw [e, e2]; exact hp) m).mono (fun y ⟨u, w, e, e2, p⟩ => by rw [← e, ← e2]; exact p) (by omega)
theorem es_lcRP {j n B : Nat} {vs : List Nat} {P2 : Nat → β → Prop} (h : ∀ F1 H1, Gr (M1 a) F H F1 H1 → F1 a = none → Ev rInt ta σ F1 H1 (n : Int)) (hn : n ≤ B) (hB : B ≤ 1000000) (hw : ∀ v, wipe ((wipe σ vs).set j (some v)) vs = wipe σ vs)
    (he : ∀ i : Nat, i < n → ∀ F1 H1, Gr (M1 a) F H F1 H1 → F1 a = none → EvS a c2 S te ((wipe σ vs).set j (some (.int (i : Int)))) F1 H1 (P2 i)) (m' : Mn S := by infer_instance) :
    EvS a (B * c2) (rLst S) (tLc (iRng1 (tCons ta tNil)) (gName j) tYes te vs) σ F H (fun l => l.length = n ∧ ∀ (i : Nat) x, l[i]? = some x → P2 i x) :=
  (es_lcR (B := n) (es_pure h) (fun k e => by rw [e]; omega) (by omega) hw he m').mono (fun l ⟨k, e, hl, p⟩ => ⟨by omega, p⟩) (by rw [Nat.zero_add]; exact Nat.mul_le_mul_right _ hn)
/-! tests -/
theorem ets_test {P : Bool → Prop} (h : EvS a c rBl te σ F H P) : EvTS a c (tTest te) σ F H P := fun F1 H1 N g fa s Q q => h F1 H1 N g fa s _ fun v b F2 H2 g2 fa2 s2 p r => ⟨b, r, q b F2 H2 g2 fa2 s2 p⟩
theorem ets_B {P : Bool → Prop} (h : EvS a c rBl te σ F H P) : EvTS a c (tB te) σ F H P := fun F1 H1 N g fa s Q q => h F1 H1 N g fa s _ fun v b F2 H2 g2 fa2 s2 p r => ⟨b, r, q b F2 H2 g2 fa2 s2 p⟩
theorem ets_and {P1 P2 : Bool → Prop} (h1 : EvTS a c1 t σ F H P1) (h2 : EvTS a c2 u σ F H P2) : EvTS a (c1 + c2) (tAnd t u) σ F H (fun b => b = true → P1 true ∧ P2 true) := fun F1 H1 N g fa s Q q =>
  h1 F1 H1 (N + c2) g fa (s.le (by omega)) _ fun b F2 H2 g2 fa2 s2 p => by
    cases b with
    | true => exact h2 F2 H2 N (g.trans g2) fa2 s2 _ fun b F3 H3 g3 fa3 s3 p3 => q b F3 H3 (g2.trans g3) fa3 s3 fun e => ⟨p, e ▸ p3⟩
    | false => exact q false F2 H2 g2 fa2 (s2.le (by omega)) fun e => nomatch e
/-! statements -/
theorem x_setS {i : Nat} (h : EvS a c R te σ F H P) (e : Ex F H) (fa : F a = none) (s : Src H a N) (hc : c ≤ N) (k : ∀ v x F' H', Gr (M1 a) F H F' H' → F' a = none → Src H' a (N - c) → P x → R F' v x → D.nx (σ.set i (some v)) H') : tAsg te (gName i) D σ H :=
  h F H (N - c) (.refl e) fa (s.le (by omega)) _ fun v x F' H' g fa' s' p r => k v x F' H' g fa' s' p r
theorem x_retS (h : EvS a c R te σ F H P) (e : Ex F H) (fa : F a = none) (s : Src H a N) (hc : c ≤ N) (k : ∀ v x F' H', Gr (M1 a) F H F' H' → F' a = none → Src H' a (N - c) → P x → R F' v x → D.rt v H') : tRet te D σ H :=
  h F H (N - c) (.refl e) fa (s.le (by omega)) _ fun v x F' H' g fa' s' p r => k v x F' H' g fa' s' p r
theorem x_ifS {P : Bool → Prop} (h : EvTS a c t σ F H P) (e : Ex F H) (fa : F a = none) (s : Src H a N) (hc : c ≤ N) (k1 : P true → ∀ F' H', Gr (M1 a) F H F' H' → F' a = none → Src H' a (N - c) → ts D σ H') (k2 : P false → ∀ F' H', Gr (M1 a) F H F' H' → F' a = none → Src H' a (N - c) → tu D σ H') : tIfS t ts tu D σ H :=
  h F H (N - c) (.refl e) fa (s.le (by omega)) _ fun b F' H' g fa' s' p => by
    cases b with
    | true => exact k1 p F' H' g fa' s'
    | false => exact k2 p F' H' g fa' s'
/-- x, y = e, e a pair -/
theorem x_pairS {i j : Nat} {P : α × β → Prop} (h : EvS a c (rPr R S) te σ F H P) (e : Ex F H) (fa : F a = none) (s : Src H a N) (hc : c ≤ N)
    (k : ∀ v w x F' H', Gr (M1 a) F H F' H' → F' a = none → Src H' a (N - c) → P x → R F' v x.1 → S F' w x.2 → D.nx ((σ.set i (some v)).set j (some w)) H') : tAsg te (gTup K 2 (gCons (gName i) (gCons (gName j) gNil))) D σ H :=
  h F H (N - c) (.refl e) fa (s.le (by omega)) _ fun v x F' H' g fa' s' p ⟨b, u, w, eb, hb, r1, r2⟩ => by
    subst eb
    refine ⟨b, [u, w], rfl, SqT.of (g.fh _ _ hb), rfl, u, [w], rfl, w, [], rfl, rfl, ?_⟩
    exact k u w x F' H' g fa' s' p r1 r2
end
end El

set_option Elab.async false
set_option linter.all false
set_option maxRecDepth 100000
set_option maxHeartbeats 2000000
namespace El
open PySem PySem.Spec L2
/-! ### == of data -/
class Dt {α : Type} (R : Rp α) where
  data : α → PyData
  rep : ∀ {K : PySem.W.Frag} {F H : Hp} {v : V} {x : α}, Ex F H → R F v x → Dp K H v (data x)
  lay : ∀ x, (data x).canLay0 = true
  dep : Nat
  depth : ∀ x, (data x).depth ≤ dep
  eqv : ∀ x y, PyData.eqv (data x) (data y) = true ↔ x = y
instance : Dt rInt where
  data := .int
  rep := fun e r => by cases (show _ = _ from r); exact .int _
  lay := fun _ => rfl
  dep := 0
  depth := fun _ => Nat.le_refl _
  eqv := fun x y => by show (x == y) = true ↔ x = y; exact beq_iff_eq
instance : Dt rNat where
  data := fun n => .int (n : Int)
  rep := fun e r => by cases (show _ = _ from r); exact .int _
  lay := fun _ => rfl
  dep := 0
  depth := fun _ => Nat.le_refl _
  eqv := fun x y => by show ((x : Int) == (y : Int)) = true ↔ x = y; rw [beq_iff_eq]; omega
instance : Dt rBl where
  data := .bool
  rep := fun e r => by cases (show _ = _ from r); exact .bl _
  lay := fun _ => rfl
  dep := 0
  depth := fun _ => Nat.le_refl _
  eqv := fun x y => by show (x == y) = true ↔ x = y; exact beq_iff_eq
theorem dpAll {α : Type} {R : Rp α} [d : Dt R] {K : PySem.W.Frag} {F H : Hp} (e : Ex F H) : ∀ {vs : List V} {xs : List α}, Paired (R F) vs xs → DpAll K H vs (xs.map d.data)
  | _, _, .nil => .nil
  | _, _, .cons r t => .cons (d.rep e r) (dpAll e t)
theorem layAll {α : Type} {R : Rp α} [d : Dt R] : ∀ xs : List α, PyData.canLayAll0 (xs.map d.data) = true
  | [] => rfl
  | x :: xs => by
    show (PyData.canLay0 (d.data x) && PyData.canLayAll0 (xs.map d.data)) = true
    rw [d.lay x, layAll xs]
    rfl
theorem depAll {α : Type} {R : Rp α} [d : Dt R] : ∀ xs : List α, PyData.depthAll (xs.map d.data) ≤ d.dep
  | [] => Nat.zero_le _
  | x :: xs => by
    show max (PyData.depth (d.data x)) (PyData.depthAll (xs.map d.data)) ≤ _
    exact Nat.max_le.mpr ⟨d.depth x, depAll xs⟩
theorem eqvAllD {α : Type} {R : Rp α} [d : Dt R] : ∀ xs ys : List α, PyData.eqvAll (xs.map d.data) (ys.map d.data) = true ↔ xs = ys
  | [], [] => by simp [PyData.eqvAll]
  | x :: xs, [] => by simp [PyData.eqvAll]
  | [], y :: ys => by simp [PyData.eqvAll]
  | x :: xs, y :: ys => by
    show (PyData.eqv (d.data x) (d.data y) && PyData.eqvAll (xs.map d.data) (ys.map d.data)) = true ↔ _
    rw [Bool.and_eq_true, d.eqv, eqvAllD xs ys, List.cons.injEq]
instance {α : Type} {R : Rp α} [d : Dt R] : Dt (rLst R) where
  data := fun xs => .list (xs.map d.data)
  rep := fun e ⟨a, vs, h1, h2, h3⟩ => by subst h1; exact .lst (SqL.of (e _ _ h2)) (dpAll e h3)
  lay := fun xs => by show PyData.canLayAll0 _ = true; exact layAll xs
  dep := d.dep + 1
  depth := fun xs => by show PyData.depthAll _ + 1 ≤ _; exact Nat.succ_le_succ (depAll xs)
  eqv := fun xs ys => by show PyData.eqvAll _ _ = true ↔ _; exact eqvAllD xs ys
instance {α : Type} {R : Rp α} [d : Dt R] : Dt (rTup R) where
  data := fun xs => .tuple (xs.map d.data)
  rep := fun e ⟨a, vs, h1, h2, h3⟩ => by subst h1; exact .tup (SqT.of (e _ _ h2)) (dpAll e h3)
  lay := fun xs => by show PyData.canLayAll0 _ = true; exact layAll xs
  dep := d.dep + 1
  depth := fun xs => by show PyData.depthAll _ + 1 ≤ _; exact Nat.succ_le_succ (depAll xs)
  eqv := fun xs ys => by show PyData.eqvAll _ _ = true ↔ _; exact eqvAllD xs ys
instance {α β : Type} {R : Rp α} {S : Rp β} [d : Dt R] [f : Dt S] : Dt (rPr R S) where
  data := fun p => .tuple [d.data p.1, f.data p.2]
  rep := fun e ⟨a, x, y, h1, h2, h3, h4⟩ => by subst h1; exact .tup (SqT.of (e _ _ h2)) (.cons (d.rep e h3) (.cons (f.rep e h4) .nil))
  lay := fun p => by
    show (PyData.canLay0 _ && (PyData.canLay0 _ && true)) = true
    rw [d.lay, f.lay]
    rfl
  dep := max d.dep f.dep + 1
  depth := fun p => by
    show max (PyData.depth (d.data p.1)) (max (PyData.depth (f.data p.2)) 0) + 1 ≤ _
    have := d.depth p.1
    have := f.depth p.2
    omega
  eqv := fun p q => by
    show (PyData.eqv _ _ && (PyData.eqv _ _ && true)) = true ↔ _
    rw [Bool.and_true, Bool.and_eq_true, d.eqv, f.eqv, Prod.ext_iff]
class NotNoneD {α : Type} (R : Rp α) [d : Dt R] : Prop where
  nn : ∀ x, d.data x ≠ .none
instance : NotNoneD rInt := ⟨fun _ => fun z => nomatch z⟩
instance : NotNoneD rNat := ⟨fun _ => fun z => nomatch z⟩
instance : NotNoneD rBl := ⟨fun _ => fun z => nomatch z⟩
instance {α : Type} {R : Rp α} [d : Dt R] : NotNoneD (rLst R) := ⟨fun _ => fun z => nomatch z⟩
instance {α : Type} {R : Rp α} [d : Dt R] : NotNoneD (rTup R) := ⟨fun _ => fun z => nomatch z⟩
instance {α β : Type} {R : Rp α} {S : Rp β} [d : Dt R] [f : Dt S] : NotNoneD (rPr R S) := ⟨fun _ => fun z => nomatch z⟩
theorem eqv_none {d : PyData} (h : d ≠ .none) : PyData.eqv .none d = false ∧ PyData.eqv d .none = false := by
  cases d with
  | none => exact absurd rfl h
  | bool _ => exact ⟨rfl, rfl⟩
  | int _ => exact ⟨rfl, rfl⟩
  | str _ => exact ⟨rfl, rfl⟩
  | list _ => exact ⟨rfl, rfl⟩
  | tuple _ => exact ⟨rfl, rfl⟩
  | dict _ => exact ⟨rfl, rfl⟩
instance {α : Type} {R : Rp α} [d : Dt R] [n : NotNoneD R] : Dt (rOpt R) where
  data := fun x => match x with
    | none => .none
    | some y => d.data y
  rep := fun {K F H v x} e r => by
    cases x with
    | none => cases (show _ = _ from r); exact .non
    | some y => exact d.rep e r
  lay := fun x => by
    cases x with
    | none => rfl
    | some y => exact d.lay y
  dep := d.dep
  depth := fun x => by
    cases x with
    | none => exact Nat.zero_le _
    | some y => exact d.depth y
  eqv := fun x y => by
    cases x with
    | none =>
      cases y with
      | none => exact ⟨fun _ => rfl, fun _ => rfl⟩
      | some y => exact ⟨(fun h => by rw [(eqv_none (n.nn y)).1] at h; exact Bool.noConfusion h), (fun h => nomatch h)⟩
    | some x =>
      cases y with
      | none => exact ⟨(fun h => by rw [(eqv_none (n.nn x)).2] at h; exact Bool.noConfusion h), (fun h => nomatch h)⟩
      | some y => exact (d.eqv x y).trans ⟨fun h => by rw [h], fun h => Option.some.inj h⟩
section
variable {K : PySem.W.Frag} {σ : St} {F H F' H' : Hp} {ta tb tc te tl : TE} {α β : Type} {R : Rp α} {S : Rp β} {x y : α} {xs : List α}
theorem shapedD (d : Dt R) (h : d.dep ≤ 64) (x : α) : SeqAt.shaped (d.data x) = true := by
  show (PyData.canLay0 _ && decide _) = true
  rw [d.lay, decide_eq_true (Nat.le_trans (d.depth x) h)]
  rfl
theorem ev_eqD [DecidableEq α] (ha : Ev R ta σ F H x) (hb : Ev R tb σ F H y) (d : Dt R := by infer_instance) (m : Mn R := by infer_instance) (h : d.dep ≤ 64 := by decide) : Ev rBl (tOp (rEqD K) ta tb) σ F H (decide (x = y)) := fun F1 H1 g1 Q q =>
  ha F1 H1 g1 _ fun v F2 H2 g2 r => hb F2 H2 (g1.trans g2) _ fun w F3 H3 g3 r3 => ⟨d.data x, d.data y, d.rep g3.fh (m.mono g3.ff r), d.rep g3.fh r3, shapedD d h x, shapedD d h y, by
    have e : PyData.eqv (d.data x) (d.data y) = decide (x = y) := by
      by_cases z : x = y
      · rw [decide_eq_true z]; exact (d.eqv x y).mpr z
      · rw [decide_eq_false z]
        cases q : PyData.eqv (d.data x) (d.data y) with
        | false => rfl
        | true => exact absurd ((d.eqv x y).mp q) z
    rw [e]
    exact q _ F3 H3 (g2.trans g3) rfl⟩
theorem ev_neD [DecidableEq α] (ha : Ev R ta σ F H x) (hb : Ev R tb σ F H y) (d : Dt R := by infer_instance) (m : Mn R := by infer_instance) (h : d.dep ≤ 64 := by decide) : Ev rBl (tOp (rNeD K) ta tb) σ F H (!decide (x = y)) := fun F1 H1 g1 Q q =>
  ha F1 H1 g1 _ fun v F2 H2 g2 r => hb F2 H2 (g1.trans g2) _ fun w F3 H3 g3 r3 => ⟨d.data x, d.data y, d.rep g3.fh (m.mono g3.ff r), d.rep g3.fh r3, shapedD d h x, shapedD d h y, by
    have e : PyData.eqv (d.data x) (d.data y) = decide (x = y) := by
      by_cases z : x = y
      · rw [decide_eq_true z]; exact (d.eqv x y).mpr z
      · rw [decide_eq_false z]
        cases q : PyData.eqv (d.data x) (d.data y) with
        | false => rfl
        | true => exact absurd ((d.eqv x y).mp q) z
    rw [e]
    exact q _ F3 H3 (g2.trans g3) rfl⟩
theorem ev_neB {a b : Bool} (ha : Ev rBl ta σ F H a) (hb : Ev rBl tb σ F H b) : Ev rBl (tOp rNe ta tb) σ F H (!decide (a = b)) := fun F1 H1 g1 Q q =>
  ha F1 H1 g1 _ fun v F2 H2 g2 r => hb F2 H2 (g1.trans g2) _ fun w F3 H3 g3 r2 => by
    cases (show v = V.bl a from r)
    cases (show w = V.bl b from r2)
    refine ⟨rfl, ?_⟩
    have e : decide (V.bl a = V.bl b) = decide (a = b) := by simp
    rw [e]
    exact q _ F3 H3 (g2.trans g3) rfl
theorem ev_eqB {a b : Bool} (ha : Ev rBl ta σ F H a) (hb : Ev rBl tb σ F H b) : Ev rBl (tOp rEq ta tb) σ F H (decide (a = b)) := fun F1 H1 g1 Q q =>
  ha F1 H1 g1 _ fun v F2 H2 g2 r => hb F2 H2 (g1.trans g2) _ fun w F3 H3 g3 r2 => by
    cases (show v = V.bl a from r)
    cases (show w = V.bl b from r2)
    refine ⟨rfl, ?_⟩
    have e : decide (V.bl a = V.bl b) = decide (a = b) := by simp
    rw [e]
    exact q _ F3 H3 (g2.trans g3) rfl
/-- x == y of options of ints -/
theorem krev {X : Cx} (K : PySem.W.Frag) {e : Expr} {te : TE} {k : Nat} {p1 p2 p3 pos : Pos} (he : PE X e te) (hK : X.K = K := by rfl) : PE X (.Subscript e (.Slice none none (some (.UnaryOp .USub (.Constant (.int 1) k p1) p2)) p3) pos) (tRevL K te) := by
  subst hK
  exact pe_revL he
theorem ev_rev (ha : Ev (rLst R) ta σ F H xs) (m : Mn R := by infer_instance) : Ev (rLst R) (tRevL K ta) σ F H xs.reverse := fun F1 H1 g1 Q q =>
  ha F1 H1 g1 _ fun v F2 H2 g2 ⟨a, vs, e, hl, p⟩ => ⟨a, vs, e, SqL.of (g2.fh _ _ hl), fun D hD => q _ _ _ (g2.trans (.new g2.fh hD)) ⟨D, _, rfl, upd_same, Paired.rev (Paired.up (Gr.new (M := M0) g2.fh hD).ff p)⟩⟩
/-- the script's items -/
theorem Ex.seq {K : PySem.W.Frag} {H H' : Hp} {a : Addr} {xs : List V} (e : Ex H H') (h : SqL K H a xs) : SqL K H' a xs := by
  rcases h with (h | ⟨o, h⟩) | h
  · exact .inl (.inl (e _ _ h))
  · exact .inl (.inr ⟨o, e _ _ h⟩)
  · exact .inr h
theorem ev_script {a : Addr} {ns : List Int} {n : Nat} (ha : Ev rRef te σ F H a) (h : SqL K H a (ns.map V.int)) : Ev (rLst rInt) (tSl (rSlL K) te tNoPart (tPart (tC (.int (n : Int))))) σ F H (ns.take n) := fun F1 H1 g1 Q q =>
  ha F1 H1 g1 _ fun v F2 H2 g2 e => ⟨(n : Int), rfl, a, ns.map V.int, e, (g1.hx.trans g2.hx).seq h, fun D hD => q _ _ _ (g2.trans (.new g2.fh hD)) ⟨D, _, rfl, upd_same, by
    rw [← cut_to]
    exact cut_paired (paired_ints ns)⟩⟩
end
theorem gsx {M : Addr → Prop} {F0 H0 F H F' H' : Hp} (g : Gr M0 F0 H0 F H) (g2 : Gr M F H F' H') (n : ∀ b, M b → H0 b = none) : Gr M0 F0 H0 F' H' := g.seq0 g2 n
end El

set_option Elab.async false
set_option linter.all false
set_option maxRecDepth 100000
set_option maxHeartbeats 4000000
namespace El
open PySem PySem.Spec L2
/-! ### tuple * 1 and more -/
theorem tuple_mul1 (l : Addr) (items : Array Value) (n : Nat) (dd : Option Addr) (sl : Array (Option Value)) (u : Tok) (hl0 : items.isEmpty = false) :
    Meets (Builtin.«tuple.__mul__» ⟨[.ref l, .int 1 u], []⟩) (fun _ R s => s.heap.get? l = some { cls := .type "tuple", dict := dd, data := .seq items n, slots := sl } ∧
      R (.ok (.ret (Value.ref l))) s) :=
  .of_wp fun prog w A R s h => by
    obtain ⟨hp, g, d, tk, os⟩ := s
    obtain ⟨hl, h⟩ := h
    have f1 := AutoSeq1.idx_int
    wp_walk using wpAny_loadPart' hl
    repeat (first
      | (refine wpAny_ite_false (decide_eq_false (by decide)) ?_; wp_walk using wpAny_loadPart' hl)
      | (refine wpAny_ite_true (decide_eq_true (by rw [hl0]; rfl)) ?_; wp_walk using wpAny_loadPart' hl))
    exact ⟨_, rfl, h⟩

def rRepU (K : PySem.W.Frag) : R2 := fun x y H Q => ∃ l k xs, x = .ref l ∧ y = .int k ∧ SqT K H l xs ∧ xs ≠ [] ∧ 1 ≤ k ∧ k ≤ 1000 ∧ xs.length ≤ 1000 ∧ (k = 1 → Q x H) ∧ ∀ p, H p = none → Q (.ref p) (upd H p (.tup (List.replicate k.toNat xs).flatten))
theorem op_repU {X : Cx} : OpR X (binaryOp .Mult) (rRepU X.K) := by
  intro pins s σ H x y v u Q I rx ry h
  obtain ⟨l, k, xs, rfl, rfl, hT, hne, h1, h2, hz, q1, q⟩ := h
  by_cases hk : k = 1
  · subst hk
    have rx' := rx
    cases rx'
    obtain ⟨t, rfl⟩ := ry
    obtain ⟨its, r, ⟨⟨cls, dd, data, sl⟩, ho, hc, n, hd⟩, hs⟩ := I.tuple hT
    simp only at hc hd
    subst hc hd
    have hle : its.length = xs.length := r.length.symm
    have hi : its.toArray.isEmpty = false := by
      cases its with
      | nil => exact absurd (List.eq_nil_of_length_eq_zero hle.symm) hne
      | cons a b => rfl
    refine wpAny_binaryOp_repeat_ref (T := "tuple") (U := "int") (by decide) ⟨_, ho, rfl⟩ (fun s' => typeIs_int s' 1 t) noFill_tuple_mul F.fills_int_mul F.slot_int_rmul repeat_tuple F.slot_int_index.lookup
      (call_meets F.slot_int_rmul (typeIs_int s 1 t) F.entry_int_rmul (F.args_int_rmul_2 _ _) (int_rmul_tuple 1 t l its.toArray n dd sl)
        ⟨ho, rfl, ⟨_, ho, rfl⟩, call_meets F.slot_tuple_mul ⟨_, ho, rfl⟩ F.entry_tuple_mul (F.args_tuple_mul_2 _ _) (tuple_mul1 l its.toArray n dd sl t hi) ⟨ho, ?_⟩⟩)
    exact ⟨.ref l, H, I, rfl, q1 rfl⟩
  · exact op_repT pins s σ H (.ref l) (.int k) v u Q I rx ry ⟨l, k, xs, rfl, rfl, hT, hne, by omega, h2, hz, q⟩

/-! ### texts -/
def num (n : Nat) : Str := Str.ofString (toString ((n : Nat) : Int))
theorem tl_numE (n : Nat) : TL.tl (num n) = TL.numL n := TL.tl_num n
/-- the text of a number -/
def rNum : Rp Nat := fun _ v n => v = .str (num n)
instance : Mn rNum := ⟨fun _ h => h⟩
section
variable {K : PySem.W.Frag} {σ : St} {F H F' H' : Hp} {ta tb tc te tl to : TE} {α β γ : Type} {R : Rp α} {S : Rp β} {x : α} {y : β} {xs : List α} {ys : List β} {a b z : Str} {D : Ends} {ts : TS}
theorem ev_strN {n : Nat} (ha : Ev rInt ta σ F H (n : Int)) (hn : n < 1000000) : Ev rNum (tCB (fun xs H Q => ∃ i : Int, xs = [.int i] ∧ i.natAbs.log2 < 1920 ∧ Q (.str (toString i)) H) (tCons ta tNil)) σ F H n := fun F1 H1 g1 Q q =>
  ha F1 H1 g1 _ fun v F2 H2 g2 r => ⟨(n : Int), by rw [show v = _ from r], by
    rw [Int.natAbs_natCast]
    have : n.log2 ≤ n := by
      rw [Nat.log2_def]
      split
      · have := Nat.log2_lt (n := n / 2) (k := n) (by omega)
        by_cases h : n / 2 = 0
        · rw [h]; omega
        · have := (Nat.log2_lt (n := n / 2) (k := n / 2) h).mpr Nat.lt_two_pow_self
          omega
      · omega
    have h2 : n.log2 < 20 := by
      by_cases h : n = 0
      · subst h; decide
      · exact (Nat.log2_lt h).mpr (Nat.lt_of_lt_of_le hn (by decide))
    omega, q _ F2 H2 g2 rfl⟩
theorem Ev.str {n : Nat} (h : Ev rNum ta σ F H n) : Ev rStr ta σ F H (num n) := h
theorem Ev.num {n : Nat} (h : Ev rStr ta σ F H (num n)) : Ev rNum ta σ F H n := h
abbrev rJoinS (K : PySem.W.Frag) : V → List V → Hp → VK → Prop := fun x xs H Q => ∃ a p, ∃ ys : List Str, x = .str a ∧ xs = [.ref p] ∧ (SqL K H p (ys.map V.str) ∨ SqT K H p (ys.map V.str)) ∧ (ys.map (·.length)).sum + ys.length * a.length ≤ 16777216 ∧ Q (.str (Txt.join a ys)) H
theorem ev_join {ys : List Str} (ha : Ev rStr to σ F H a) (hb : Ev (rLst rStr) te σ F H ys) (hz : (ys.map (·.length)).sum + ys.length * a.length ≤ 16777216) : Ev rStr (tM1 (rJoinS K) to te) σ F H (Txt.join a ys) := fun F1 H1 g1 Q q =>
  ha F1 H1 g1 _ fun v F2 H2 g2 r => ⟨⟨a, r⟩, hb F2 H2 (g1.trans g2) _ fun w F3 H3 g3 ⟨p, vs, e, hp, pr⟩ => ⟨a, p, ys, r, by rw [e], .inl (by rw [← strs_paired pr]; exact SqL.of (g3.fh _ _ hp)), hz, q _ F3 H3 (g2.trans g3) rfl⟩⟩
theorem paired_strs {H : Hp} : ∀ ns : List Str, Paired (rStr H) (ns.map V.str) ns
  | [] => .nil
  | n :: ns => .cons rfl (paired_strs ns)
theorem ev_joinM {p : Addr} {ys : List Str} (ha : Ev rStr to σ F H a) (hb : Ev rRef te σ F H p) (hp : H p = some (.lst (ys.map V.str))) (hz : (ys.map (·.length)).sum + ys.length * a.length ≤ 16777216) : Ev rStr (tM1 (rJoinS K) to te) σ F H (Txt.join a ys) := fun F1 H1 g1 Q q =>
  ha F1 H1 g1 _ fun v F2 H2 g2 r => ⟨⟨a, r⟩, hb F2 H2 (g1.trans g2) _ fun w F3 H3 g3 e => ⟨a, p, ys, r, by rw [show w = _ from e], .inl (SqL.of (g3.hx _ _ (g2.hx _ _ (g1.hx _ _ hp)))), hz, q _ F3 H3 (g2.trans g3) rfl⟩⟩
theorem ev_split (ha : Ev rStr to σ F H a) (hb : Ev rStr te σ F H b) (h0 : (b.length == 0) = false) (hz : a.length + 2 ≤ sizeLine) : Ev (rLst rStr) (tM1 (fun x xs H Q => ∃ a b, x = .str a ∧ xs = [.str b] ∧ (b.length == 0) = false ∧ a.length + 2 ≤ sizeLine ∧ rNewStrs (Txt.split a b) H Q) to te) σ F H (Txt.split a b) := fun F1 H1 g1 Q q =>
  ha F1 H1 g1 _ fun v F2 H2 g2 r => ⟨⟨a, r⟩, hb F2 H2 (g1.trans g2) _ fun w F3 H3 g3 e => ⟨a, b, r, by rw [show w = _ from e], h0, hz, fun p hp => q _ _ _ ((g2.trans g3).trans (.new g3.fh hp)) ⟨p, _, rfl, upd_same, paired_strs _⟩⟩⟩
theorem ev_intS {n : Int} (ha : Ev rStr ta σ F H a) (hn : PySem.intText? a = some n) (hz : a.length ≤ 640) : Ev rInt (tCB (fun xs H Q => ∃ a n, xs = [.str a] ∧ PySem.intText? a = some n ∧ a.length ≤ 640 ∧ Q (.int n) H) (tCons ta tNil)) σ F H n := fun F1 H1 g1 Q q =>
  ha F1 H1 g1 _ fun v F2 H2 g2 r => ⟨a, n, by rw [show v = _ from r], hn, hz, q _ F2 H2 g2 rfl⟩
theorem ev_inSign {c : Nat} (ha : Ev rStr ta σ F H ⟨#[c]⟩) (hb : Ev rStr tb σ F H z) : Ev rBl (tOp (fun x y H Q => ∃ (c : Nat) (z : Str), x = .str ⟨#[c]⟩ ∧ y = .str z ∧ Q (.bl (decide (c ∈ z.cps.toList))) H) ta tb) σ F H (decide (c ∈ z.cps.toList)) := fun F1 H1 g1 Q q =>
  ha F1 H1 g1 _ fun v F2 H2 g2 r => hb F2 H2 (g1.trans g2) _ fun w F3 H3 g3 e => ⟨c, z, r, e, q _ F3 H3 (g2.trans g3) rfl⟩
theorem ev_ixS {i : Int} {c : Nat} (ha : Ev rStr ta σ F H z) (hb : Ev rInt tb σ F H i) (hz : z.length ≤ sizeLine) (hi : atI z.cps.toList i = some c) : Ev rStr (tOp rIxS ta tb) σ F H ⟨#[c]⟩ := fun F1 H1 g1 Q q =>
  ha F1 H1 g1 _ fun v F2 H2 g2 r => hb F2 H2 (g1.trans g2) _ fun w F3 H3 g3 e => ⟨z, i, c, r, e, hz, hi, q _ F3 H3 (g2.trans g3) rfl⟩
/-- [elt for sign in text] -/
theorem ev_lcS {n : Nat} {vs : List Nat} (h : Ev rStr tl σ F H z) (hlen : ys.length = z.cps.size) (hz : z.cps.size ≤ 1000000) (hw : ∀ v, wipe ((wipe σ vs).set n (some v)) vs = wipe σ vs)
    (he : ∀ (i : Nat) c y F1 H1, z.cps[i]? = some c → ys[i]? = some y → Gr M0 F H F1 H1 → Ev S te ((wipe σ vs).set n (some (.str ⟨#[c]⟩))) F1 H1 y) (m' : Mn S := by infer_instance) : Ev (rLst S) (tLc (iStr tl) (gName n) tYes te vs) σ F H ys := by
  intro F1 H1 g1 Q q
  refine h F1 H1 g1 _ fun v F2 H2 g2 ea => ⟨z, ea, fun D hD => ?_⟩
  refine lc_it walk_str (fun i H' => ∃ F' us, Gr M0 F2 H2 F' H' ∧ F' D = none ∧ H' D = some (.lst us) ∧ Paired (S F') us (ys.take i)) ⟨F2, [], .loc g2.fh hD, g2.fh.free hD, upd_same, .nil⟩ (fun _ _ _ _ => trivial) ?_ ?_
  · rintro i w H' H0 hi ⟨F', us, g, fD, hD', pu⟩ ⟨eq, c, hc, rfl⟩
    obtain rfl : H' = H0 := eq.symm
    have hil : i < ys.length := by rw [hlen]; exact hi
    have hy : ys[i]? = some ys[i] := List.getElem?_eq_getElem hil
    refine ⟨hw _, ?_⟩
    refine he i c ys[i] F' H' hc hy ((g1.trans g2).trans g) F' H' (.refl g.fh) _ fun u F3 H3 g3 r3 => ?_
    refine ⟨us, g3.hx _ _ hD', ?_, F3, us ++ [u], (g.trans g3).set' (g3.nn hD' fD) (.inl hD), g3.nn hD' fD, upd_same, ?_⟩
    · rw [pu.length, List.length_take, sizeLine_eq]
      omega
    · rw [List.take_add_one, hy]
      exact (Paired.up g3.ff pu).snoc r3
  · rintro H' ⟨F', us, g, fD, hD', pu⟩
    rw [← hlen, List.take_length] at pu
    exact q _ _ _ (g2.trans (g.frz hD' (g2.fh.free hD) (.inl hD))) ⟨D, us, rfl, upd_same, Paired.up (g.fh.frz hD' fD) pu⟩
/-- tuple * n -/
theorem ev_repU {n : Int} (ha : Ev (rTup R) ta σ F H [x]) (hb : Ev rInt tb σ F H n) (h1 : 1 ≤ n) (h2 : n ≤ 1000) (m : Mn R := by infer_instance) : Ev (rTup R) (tOp (rRepU K) ta tb) σ F H (List.replicate n.toNat x) := fun F1 H1 g1 Q q =>
  ha F1 H1 g1 _ fun v F2 H2 g2 ⟨a, vs, e, hl, p⟩ => hb F2 H2 (g1.trans g2) _ fun w F3 H3 g3 e2 => by
    cases p with
    | cons r p =>
      cases p
      rename_i y
      refine ⟨a, n, [y], e, e2, SqT.of (g3.fh _ _ (g3.ff _ _ hl)), by simp, h1, h2, by simp, fun hn => ?_, fun D hD => ?_⟩
      · subst hn
        exact q _ F3 H3 (g2.trans g3) ⟨a, [y], e, g3.ff _ _ hl, .cons (m.mono g3.ff r) .nil⟩
      · have g4 : Gr M0 F3 H3 (upd F3 D (.tup (List.replicate n.toNat [y]).flatten)) (upd H3 D (.tup (List.replicate n.toNat [y]).flatten)) := .new g3.fh hD
        refine q _ _ _ ((g2.trans g3).trans g4) ⟨D, _, rfl, upd_same, ?_⟩
        have : ∀ k : Nat, Paired (R (upd F3 D (.tup (List.replicate n.toNat [y]).flatten))) (List.replicate k [y]).flatten (List.replicate k x) := fun k => by
          induction k with
          | zero => exact .nil
          | succ k ih =>
            rw [List.replicate_succ, List.replicate_succ, List.flatten_cons]
            exact .cons (m.mono (g3.ff.trans g4.ff) r) ih
        exact this _
/-- min of two -/
theorem ev_min2 {i j : Int} (ha : Ev rInt ta σ F H i) (hb : Ev rInt tb σ F H j) : Ev rInt (tCB (fun xs H Q => ∃ i j : Int, xs = [.int i, .int j] ∧ Q (.int (if j < i then j else i)) H) (tCons ta (tCons tb tNil))) σ F H (if j < i then j else i) := fun F1 H1 g1 Q q =>
  ha F1 H1 g1 _ fun v F2 H2 g2 r => hb F2 H2 (g1.trans g2) _ fun w F3 H3 g3 r2 => ⟨i, j, by rw [show v = _ from r, show w = _ from r2], q _ F3 H3 (g2.trans g3) rfl⟩
theorem ev_max2 {i j : Int} (ha : Ev rInt ta σ F H i) (hb : Ev rInt tb σ F H j) : Ev rInt (tCB (fun xs H Q => ∃ i j : Int, xs = [.int i, .int j] ∧ Q (.int (if j > i then j else i)) H) (tCons ta (tCons tb tNil))) σ F H (if j > i then j else i) := fun F1 H1 g1 Q q =>
  ha F1 H1 g1 _ fun v F2 H2 g2 r => hb F2 H2 (g1.trans g2) _ fun w F3 H3 g3 r2 => ⟨i, j, by rw [show v = _ from r, show w = _ from r2], q _ F3 H3 (g2.trans g3) rfl⟩

/-! ### own == of turns, isinstance -/
theorem Gr.ext {F H H' : Hp} (e : Ex F H) (x : Ext H H') : Gr M0 F H F H' := ⟨Ex.refl F, fun a o h => x a o (e a o h), fun b o _ h => x b o h, fun _ _ _ h => h, fun b h => by
  cases q : H b with
  | none => exact absurd q h
  | some o => rw [x b o q]; exact fun z => nomatch z⟩
def REq (C : Addr) : Addr → Addr → Hp → Prop := fun a b H => ∃ F t, Ex F H ∧ rTurns C F (.ref a) t ∧ rTurns C F (.ref b) t
instance {R : Addr → Addr → Hp → Prop} : SpLen (spEq R) 2 := ⟨fun ⟨_, _, h, _⟩ => by rw [h]; rfl⟩
theorem ev_eqTurns {C : Addr} {t : Tn} (ha : Ev (rTurns C) ta σ F H t) (hb : Ev (rTurns C) tb σ F H t) : Ev rBl (tOp (rEqG (DIns C (REq C))) ta tb) σ F H true := fun F1 H1 g1 Q q =>
  ha F1 H1 g1 _ fun v F2 H2 g2 r => hb F2 H2 (g1.trans g2) _ fun w F3 H3 g3 r2 => by
    have r' := Mn.mono g3.ff r
    have r3 := r'
    have r4 := r2
    obtain ⟨a, dx, l, rfl, h1, h2⟩ := r3
    obtain ⟨b, dy, l', rfl, h3, h4⟩ := r4
    exact ⟨⟨a, b, dx, dy, _, _, rfl, rfl, g3.fh _ _ h1, g3.fh _ _ h3, F3, t, g3.fh, r', r2⟩, fun H' x => q _ F3 H' ((g2.trans g3).trans (.ext g3.fh x)) rfl⟩
abbrev rIsC (C : Addr) : List V → Hp → VK → Prop := fun xs H Q => ∃ a dx fs, xs = [.ref a, .ref C] ∧ H a = some (.ins C dx fs) ∧ Q (.bl true) H
theorem ev_isTurns {C : Addr} {t : Tn} (ha : Ev (rTurns C) ta σ F H t) : Ev rBl (tCB (rIsC C) (tCons ta (tCons (tC (.ref C)) tNil))) σ F H true := fun F1 H1 g1 Q q =>
  ha F1 H1 g1 _ fun v F2 H2 g2 ⟨a, dx, l, e, h1, h2⟩ => ⟨a, dx, _, by rw [e], g2.fh _ _ h1, q _ F2 H2 g2 rfl⟩

/-! ### statements -/
/-- x = [e]: a list that may change -/
theorem x_lst1 {i : Nat} (e : Ex F H) (h : Ev R te σ F H x) (k : ∀ v l F' H', Gr M0 F H F' H' → R F' v x → H' l = none → D.nx (σ.set i (some (.ref l))) (upd H' l (.lst [v]))) : tAsg (tLst (tCons te tNil)) (gName i) D σ H :=
  h F H (.refl e) _ fun v F' H' g r => ⟨by show 1 ≤ sizeLine; decide, fun l hl => k v l F' H' g r hl⟩
/-- xs.append(e), e a draw -/
theorem x_appS {a l : Addr} {c N : Nat} {P : α → Prop} {vs : List V} {i : Nat} (hne : l ≠ a) (h : EvS a c R te σ F H P) (e : Ex F H) (fa : F a = none) (s : Src H a N) (hc : c ≤ N) (hv : σ[i]? = some (some (.ref l))) (hl : H l = some (.lst vs)) (hz : vs.length < sizeLine)
    (k : ∀ v x F' H', Gr (M1 a) F H F' H' → F' a = none → Src H' a (N - c) → P x → R F' v x → H' l = some (.lst vs) → D.nx σ (upd H' l (.lst (vs ++ [v])))) : tDrop (tBM K "list" rAppend (tVar i) (tCons te tNil)) D σ H :=
  ⟨.ref l, hv, .inl ⟨rfl, vs, SqL.of hl⟩, h F H (N - c) (.refl e) fa (s.le (by omega)) _ fun w x F' H' g fa' s' p r => ⟨l, vs, w, rfl, rfl, g.hh _ _ hne hl, hz, k w x F' H' g fa' s' p r (g.hh _ _ hne hl)⟩⟩
/-- for k in range(n), n a draw -/
theorem x_forRS {a : Addr} {c N j : Nat} {P1 : Int → Prop} (h : EvS a c rInt ta σ F H P1) (e : Ex F H) (fa : F a = none) (s : Src H a N) (hc : c ≤ N) (hn : ∀ n, P1 n → 0 ≤ n ∧ n ≤ 1000000)
    (k : ∀ n : Nat, P1 (n : Int) → ∀ F1 H1, Gr (M1 a) F H F1 H1 → F1 a = none → Src H1 a (N - c) → ∃ Pv : Nat → St → Hp → Hp → Prop, Pv 0 σ F1 H1 ∧
      (∀ i σ' F' H', i < n → Ex F1 F' → Ex F' H' → Pv i σ' F' H' →
        ts { D with nx := fun σ2 H2 => ∃ F2, Ex F1 F2 ∧ Ex F2 H2 ∧ Pv (i + 1) σ2 F2 H2, ct := fun σ2 H2 => ∃ F2, Ex F1 F2 ∧ Ex F2 H2 ∧ Pv (i + 1) σ2 F2 H2, bk := D.nx } (σ'.set j (some (.int (i : Int)))) H') ∧
      ∀ σ' F' H', Ex F1 F' → Ex F' H' → Pv n σ' F' H' → D.nx σ' H') : tFor (iRng1 (tCons ta tNil)) (gName j) ts D σ H := by
  refine h F H (N - c) (.refl e) fa (s.le (by omega)) _ fun v n F1 H1 g1 fa1 s1 p ea => ?_
  obtain ⟨n0, n1⟩ := hn n p
  obtain ⟨m, rfl⟩ : ∃ m : Nat, n = (m : Int) := ⟨n.toNat, by omega⟩
  obtain ⟨Pv, h0, hs, hd⟩ := k m p F1 H1 g1 fa1 s1
  refine ⟨(m : Int), by rw [show v = _ from ea], by omega, by omega, ?_⟩
  rw [Int.toNat_natCast]
  refine for_range (lo := 0) (n := m) (fun i σ' H' => ∃ F', Ex F1 F' ∧ Ex F' H' ∧ Pv i σ' F' H') ⟨F1, Ex.refl _, g1.fh, h0⟩ ?_ ?_
  · rintro i σ' H' hi ⟨F', e1, e2, pv⟩
    have e0 : (0 : Int) + (i : Int) = (i : Int) := Int.zero_add _
    show ts _ (σ'.set j (some (.int ((0 : Int) + (i : Int))))) H'
    rw [e0]
    exact hs i σ' F' H' hi e1 e2 pv
  · rintro σ' H' ⟨F', e1, e2, pv⟩
    exact hd σ' F' H' e1 e2 pv
end
/-- the script, or any list that is only read -/
def rQ (K : PySem.W.Frag) : Rp (List Int) := fun F v ns => ∃ a, v = .ref a ∧ SqL K F a (ns.map V.int)
instance {K : PySem.W.Frag} : Mn (rQ K) := ⟨fun e ⟨a, h1, h2⟩ => ⟨a, h1, Ex.seq e h2⟩⟩
end El

set_option Elab.async false
set_option linter.all false
set_option maxRecDepth 100000
set_option maxHeartbeats 2000000
namespace El
open PySem PySem.Spec L2
def wordsOf (m : List Nat) : List Str := ("/" : Str) :: m.map num
def wordsM (many : Nat) (maps : List (List Nat)) : List Str := num many :: (maps.map wordsOf).flatten
def textM (many : Nat) (maps : List (List Nat)) : Str := Txt.join (" " : Str) (wordsM many maps)
def valW (s : Str) : Nat := NumText.digitsVal (TL.tl s)
def mapAtM (ws : List Str) (at_ many : Nat) : List Nat := ((ws.drop (at_ + 1)).take many).map valW
/-- a text of turns -/
def rText : Rp Tn := fun _ v t => v = .str (textM t.many t.maps)
instance : Mn rText := ⟨fun _ h => h⟩
theorem valW_num (n : Nat) : valW (num n) = n := by
  unfold valW
  rw [tl_numE, TL.numL_val]
theorem free_num (n : Nat) : 32 ∉ TL.tl (num n) := by
  rw [tl_numE]
  exact TL.numL_free (.inl (by decide))
theorem tl_slash : TL.tl ("/" : Str) = [47] := by
  show TL.tl (Str.ofString "/") = _
  rw [TL.tl_ofString]
  rfl
theorem tl_blank : TL.tl (" " : Str) = [32] := by
  show TL.tl (Str.ofString " ") = _
  rw [TL.tl_ofString]
  rfl
theorem mem_words {many : Nat} {maps : List (List Nat)} {p : Str} (h : p ∈ wordsM many maps) : p = ("/" : Str) ∨ ∃ n, p = num n ∧ (n = many ∨ ∃ m ∈ maps, n ∈ m) := by
  unfold wordsM at h
  rcases List.mem_cons.mp h with rfl | h
  · exact .inr ⟨many, rfl, .inl rfl⟩
  · obtain ⟨l, hl, hp⟩ := List.mem_flatten.mp h
    obtain ⟨m, hm, rfl⟩ := List.mem_map.mp hl
    unfold wordsOf at hp
    rcases List.mem_cons.mp hp with rfl | hp
    · exact .inl rfl
    · obtain ⟨n, hn, rfl⟩ := List.mem_map.mp hp
      exact .inr ⟨n, rfl, .inr ⟨m, hm, hn⟩⟩
theorem free_words {many : Nat} {maps : List (List Nat)} : ∀ p ∈ wordsM many maps, 32 ∉ TL.tl p := fun p h => by
  rcases mem_words h with rfl | ⟨n, rfl, _⟩
  · rw [tl_slash]; decide
  · exact free_num n
theorem blank_len : ((" " : Str).length == 0) = false := by
  rw [TL.len_tl, tl_blank]
  rfl
theorem blank_one : (" " : Str).length = 1 := by
  rw [TL.len_tl, tl_blank]
  rfl
theorem split_text (many : Nat) (maps : List (List Nat)) : Txt.split (textM many maps) (" " : Str) = wordsM many maps :=
  TL.split_join tl_blank (by decide +kernel) (by unfold wordsM; simp) free_words
theorem len_num {n : Nat} (h : n < 100) : (num n).length ≤ 2 := by
  rw [TL.len_tl, tl_numE]
  exact TL.numL_len (by decide) (by omega)
theorem len_num1 (n : Nat) : 1 ≤ (num n).length := by
  rw [TL.len_tl, tl_numE]
  have := TL.numL_ne n
  cases q : TL.numL n with
  | nil => exact absurd q this
  | cons a l => simp
theorem len_words {many : Nat} {maps : List (List Nat)} (h0 : many < 100) (h : ∀ m ∈ maps, IsMap many m) : ∀ p ∈ wordsM many maps, p.length ≤ 2 := fun p hp => by
  rcases mem_words hp with rfl | ⟨n, rfl, hn⟩
  · rw [TL.len_tl, tl_slash]; decide
  · refine len_num ?_
    rcases hn with rfl | ⟨m, hm, hn⟩
    · exact h0
    · have := (h m hm).2 n hn
      omega
theorem sum_two : ∀ l : List Str, (∀ p ∈ l, p.length ≤ 2) → (l.map (·.length)).sum ≤ 2 * l.length
  | [], _ => by simp
  | a :: l, h => by
    have h1 := h a List.mem_cons_self
    have h2 := sum_two l fun p hp => h p (List.mem_cons_of_mem _ hp)
    rw [List.map_cons, List.sum_cons, List.length_cons]
    omega
theorem flat_len {many : Nat} : ∀ {maps : List (List Nat)}, (∀ m ∈ maps, IsMap many m) → (maps.map wordsOf).flatten.length = maps.length * (many + 1)
  | [], _ => by simp
  | m :: maps, h => by
    rw [List.map_cons, List.flatten_cons, List.length_append, flat_len fun m' h' => h m' (List.mem_cons_of_mem _ h'), List.length_cons, Nat.succ_mul]
    have := (h m List.mem_cons_self).1
    show (("/" : Str) :: m.map num).length + _ = _
    rw [List.length_cons, List.length_map, this]
    omega
theorem words_len {many : Nat} {maps : List (List Nat)} (h : ∀ m ∈ maps, IsMap many m) : (wordsM many maps).length = 1 + maps.length * (many + 1) := by
  unfold wordsM
  rw [List.length_cons, flat_len h]
  omega
theorem words_le {many : Nat} {maps : List (List Nat)} (h0 : many ≤ 32) (h1 : maps.length ≤ 200) (h : ∀ m ∈ maps, IsMap many m) : (wordsM many maps).length ≤ 6601 := by
  rw [words_len h]
  have : maps.length * (many + 1) ≤ 200 * 33 := Nat.mul_le_mul h1 (by omega)
  omega
theorem words_fit {many : Nat} {maps : List (List Nat)} (h0 : many ≤ 32) (h1 : maps.length ≤ 200) (h : ∀ m ∈ maps, IsMap many m) : ((wordsM many maps).map (·.length)).sum + (wordsM many maps).length * (" " : Str).length ≤ 16777216 := by
  have := words_le h0 h1 h
  have := sum_two _ (len_words (by omega) h)
  rw [blank_one]
  omega
theorem joinL_len (S : List Nat) : ∀ ps : List (List Nat), (TL.joinL S ps).length ≤ (ps.map (·.length)).sum + ps.length * S.length
  | [] => by simp [TL.joinL]
  | [p] => by simp [TL.joinL]
  | p :: q :: r => by
    have := joinL_len S (q :: r)
    rw [TL.joinL, List.length_append, List.length_append, List.map_cons, List.sum_cons, List.length_cons, Nat.succ_mul]
    omega
theorem text_len {many : Nat} {maps : List (List Nat)} (h0 : many ≤ 32) (h1 : maps.length ≤ 200) (h : ∀ m ∈ maps, IsMap many m) : (textM many maps).length + 2 ≤ sizeLine := by
  have h2 := words_le h0 h1 h
  have h3 := sum_two _ (len_words (by omega) h)
  unfold textM
  rw [TL.len_tl, TL.join_eq, TL.tl_join, tl_blank]
  have h4 := joinL_len [32] ((wordsM many maps).map TL.tl)
  rw [List.map_map, List.length_map] at h4
  have e : (List.map ((fun x : List Nat => x.length) ∘ TL.tl) (wordsM many maps)) = (wordsM many maps).map (·.length) := List.map_congr_left fun p _ => (TL.len_tl p).symm
  rw [e] at h4
  rw [sizeLine_eq]
  have h5 : [32].length = 1 := rfl
  rw [h5] at h4
  omega
theorem drop_flat {many : Nat} : ∀ (j : Nat) {maps : List (List Nat)}, (∀ m ∈ maps, IsMap many m) → (maps.map wordsOf).flatten.drop (j * (many + 1)) = ((maps.drop j).map wordsOf).flatten
  | 0, _, _ => by simp
  | j + 1, [], _ => by simp
  | j + 1, m :: maps, h => by
    have hl : (wordsOf m).length = many + 1 := by
      show (("/" : Str) :: m.map num).length = _
      rw [List.length_cons, List.length_map, (h m List.mem_cons_self).1]
    rw [List.map_cons, List.flatten_cons, List.drop_succ_cons, ← drop_flat j fun m' h' => h m' (List.mem_cons_of_mem _ h'), Nat.succ_mul, Nat.add_comm, ← List.drop_drop, ← hl, List.drop_left]
theorem drop_words {many : Nat} {maps : List (List Nat)} (h : ∀ m ∈ maps, IsMap many m) {j : Nat} {m : List Nat} (hj : maps[j]? = some m) : (wordsM many maps).drop (1 + j * (many + 1)) = wordsOf m ++ ((maps.drop (j + 1)).map wordsOf).flatten := by
  unfold wordsM
  rw [Nat.add_comm, List.drop_succ_cons, drop_flat j h]
  obtain ⟨hl, rfl⟩ := List.getElem?_eq_some_iff.mp hj
  rw [List.drop_eq_getElem_cons hl, List.map_cons, List.flatten_cons]
theorem mapAt_eq {ws rest : List Str} {at_ many : Nat} {m : List Nat} (hm : IsMap many m) (h : ws.drop at_ = wordsOf m ++ rest) : mapAtM ws at_ many = m := by
  unfold mapAtM
  rw [← List.drop_drop, h]
  show List.map valW (List.take many (m.map num ++ rest)) = m
  rw [List.take_append_of_le_length (by rw [List.length_map, hm.1]; exact Nat.le_refl _), List.take_of_length_le (by rw [List.length_map, hm.1]; exact Nat.le_refl _), List.map_map]
  have : m.map (valW ∘ num) = m.map id := List.map_congr_left fun n _ => valW_num n
  rw [this, List.map_id]
theorem at_slash {ws rest : List Str} {at_ : Nat} {m : List Nat} (h : ws.drop at_ = wordsOf m ++ rest) : ws[at_]? = some ("/" : Str) := by
  have : (ws.drop at_)[0]? = some ("/" : Str) := by rw [h]; rfl
  rw [List.getElem?_drop] at this
  exact this
theorem at_num {ws rest : List Str} {at_ i n : Nat} {m : List Nat} (h : ws.drop at_ = wordsOf m ++ rest) (hi : m[i]? = some n) : ws[at_ + 1 + i]? = some (num n) := by
  have : (ws.drop at_)[1 + i]? = some (num n) := by
    rw [h, show 1 + i = i + 1 from Nat.add_comm _ _]
    show (m.map num ++ rest)[i]? = _
    obtain ⟨hl, rfl⟩ := List.getElem?_eq_some_iff.mp hi
    rw [List.getElem?_append_left (by rw [List.length_map]; exact hl), List.getElem?_map, List.getElem?_eq_getElem hl]
    rfl
  rw [List.getElem?_drop] at this
  rw [Nat.add_assoc]
  exact this
/-- signs of a small number -/
theorem num_cps (n : Nat) : (num n).cps.toList = TL.numL n := tl_numE n
theorem num_size {n : Nat} : (num n).cps.size = (num n).length := rfl
theorem num_figure {n i c : Nat} (h : (num n).cps[i]? = some c) : 48 ≤ c ∧ c ≤ 57 := by
  have h2 : (num n).cps.toList[i]? = some c := by rw [Array.getElem?_toList]; exact h
  rw [num_cps] at h2
  exact TL.numL_digits n c (List.mem_of_getElem? h2)
theorem figures_tl : ("0123456789" : Str).cps.toList = [48, 49, 50, 51, 52, 53, 54, 55, 56, 57] := by
  show TL.tl (Str.ofString "0123456789") = _
  rw [TL.tl_ofString]
  rfl
theorem in_figures {c : Nat} (h : 48 ≤ c ∧ c ≤ 57) : decide (c ∈ ("0123456789" : Str).cps.toList) = true := by
  rw [figures_tl]
  obtain ⟨h1, h2⟩ := h
  apply decide_eq_true
  have : c = 48 ∨ c = 49 ∨ c = 50 ∨ c = 51 ∨ c = 52 ∨ c = 53 ∨ c = 54 ∨ c = 55 ∨ c = 56 ∨ c = 57 := by omega
  simpa using this
/-- the first sign -/
theorem num_first {n : Nat} (h : n < 100) : ∃ c, atI (num n).cps.toList 0 = some c ∧ (n = 0 ∨ 49 ≤ c) := by
  rw [num_cps]
  by_cases h1 : n < 10
  · rw [TL.numL_lt h1]
    exact ⟨48 + n, rfl, by omega⟩
  · rw [TL.numL_step (by omega), TL.numL_lt (show n / 10 < 10 by omega)]
    exact ⟨48 + n / 10, rfl, by omega⟩
theorem num_zero : num 0 = ("0" : Str) := rfl
theorem chr_ne {c : Nat} (h : 49 ≤ c) : (⟨#[c]⟩ : Str) ≠ ("0" : Str) := fun e => by
  have : TL.tl (⟨#[c]⟩ : Str) = TL.tl (Str.ofString "0") := congrArg _ e
  rw [TL.tl_ofString] at this
  have h2 : [c] = [48] := this
  injection h2 with h3
  omega
theorem int_ofNum {n : Nat} (h : n < 100) : intText? (num n) = some (n : Int) := TL.int_num (Nat.le_trans (TL.numL_len (k := 2) (by decide) (by omega)) (by decide))
end El

set_option Elab.async false
set_option linter.all false
set_option maxRecDepth 100000
set_option maxHeartbeats 4000000
namespace K72
open PySem PySem.Spec L2 El
def topS (i : Nat) : Stmt := PySem.Challenge.pw_elderdraw_k72_turns_as_texts.main.body.getD i (.Pass ⟨0, 0, 0, 0⟩)
abbrev s_is_whole : Stmt := topS 5
abbrev N_is_whole : List Str := ["thing"]
theorem sc_is_whole : FnScope N_is_whole ["thing"] (defScope s_is_whole) := ⟨rfl, rfl, rfl, by decide +kernel, rfl, by decide +kernel, by decide +kernel⟩
abbrev s_is_between : Stmt := topS 6
abbrev N_is_between : List Str := ["thing", "least", "most"]
theorem sc_is_between : FnScope N_is_between ["thing", "least", "most"] (defScope s_is_between) := ⟨rfl, rfl, rfl, by decide +kernel, rfl, by decide +kernel, by decide +kernel⟩
abbrev s_is_map : Stmt := topS 10
abbrev N_is_map : List Str := ["thing", "many", "to"]
theorem sc_is_map : FnScope N_is_map ["thing", "many"] (defScope s_is_map) := ⟨rfl, rfl, rfl, by decide +kernel, rfl, by decide +kernel, by decide +kernel⟩
abbrev s_Turns_init : Stmt := inClass (topS 11) 0
abbrev N_Turns_init : List Str := ["self", "many", "maps", "one"]
theorem sc_Turns_init : FnScope N_Turns_init ["self", "many", "maps"] (defScope s_Turns_init) := ⟨rfl, rfl, rfl, by decide +kernel, rfl, by decide +kernel, by decide +kernel⟩
abbrev s_Turns_eq : Stmt := inClass (topS 11) 1
abbrev N_Turns_eq : List Str := ["self", "other"]
theorem sc_Turns_eq : FnScope N_Turns_eq ["self", "other"] (defScope s_Turns_eq) := ⟨rfl, rfl, rfl, by decide +kernel, rfl, by decide +kernel, by decide +kernel⟩
abbrev s_is_number : Stmt := topS 14
abbrev N_is_number : List Str := ["word", "most", "sign"]
theorem sc_is_number : FnScope N_is_number ["word", "most"] (defScope s_is_number) := ⟨rfl, rfl, rfl, by decide +kernel, rfl, by decide +kernel, by decide +kernel⟩
abbrev s_number_of : Stmt := topS 15
abbrev N_number_of : List Str := ["word", "low", "high"]
theorem sc_number_of : FnScope N_number_of ["word", "low", "high"] (defScope s_number_of) := ⟨rfl, rfl, rfl, by decide +kernel, rfl, by decide +kernel, by decide +kernel⟩
abbrev s_show : Stmt := topS 16
abbrev N_show : List Str := ["turns", "words", "one", "place"]
theorem sc_show : FnScope N_show ["turns"] (defScope s_show) := ⟨rfl, rfl, rfl, by decide +kernel, rfl, by decide +kernel, by decide +kernel⟩
abbrev s_word_at : Stmt := topS 17
abbrev N_word_at : List Str := ["words", "at"]
theorem sc_word_at : FnScope N_word_at ["words", "at"] (defScope s_word_at) := ⟨rfl, rfl, rfl, by decide +kernel, rfl, by decide +kernel, by decide +kernel⟩
abbrev s_map_at : Stmt := topS 18
abbrev N_map_at : List Str := ["words", "at", "many", "found", "place", "to"]
theorem sc_map_at : FnScope N_map_at ["words", "at", "many"] (defScope s_map_at) := ⟨rfl, rfl, rfl, by decide +kernel, rfl, by decide +kernel, by decide +kernel⟩
abbrev s_read : Stmt := topS 19
abbrev N_read : List Str := ["text", "words", "many", "maps", "at"]
theorem sc_read : FnScope N_read ["text"] (defScope s_read) := ⟨rfl, rfl, rfl, by decide +kernel, rfl, by decide +kernel, by decide +kernel⟩
abbrev s__law_cell_at : Stmt := topS 21
abbrev N__law_cell_at : List Str := ["_law_script", "_law_k"]
theorem sc__law_cell_at : FnScope N__law_cell_at ["_law_script", "_law_k"] (defScope s__law_cell_at) := ⟨rfl, rfl, rfl, by decide +kernel, rfl, by decide +kernel, by decide +kernel⟩
abbrev s__law_source_of : Stmt := topS 22
abbrev N__law_source_of : List Str := ["_law_cell"]
theorem sc__law_source_of : FnScope N__law_source_of ["_law_cell"] (defScope s__law_source_of) := ⟨rfl, rfl, rfl, by decide +kernel, rfl, by decide +kernel, by decide +kernel⟩
abbrev s__law_next : Stmt := topS 23
abbrev N__law_next : List Str := ["_law_source", "_law_many", "_law_found", "_law_prime", "_law_figure"]
theorem sc__law_next : FnScope N__law_next ["_law_source", "_law_many"] (defScope s__law_next) := ⟨rfl, rfl, rfl, by decide +kernel, rfl, by decide +kernel, by decide +kernel⟩
abbrev s__law_one : Stmt := topS 24
abbrev N__law_one : List Str := ["_law_source", "_law_some"]
theorem sc__law_one : FnScope N__law_one ["_law_source", "_law_some"] (defScope s__law_one) := ⟨rfl, rfl, rfl, by decide +kernel, rfl, by decide +kernel, by decide +kernel⟩
abbrev s__law_turns : Stmt := topS 25
abbrev N__law_turns : List Str := ["_law_source", "_law_most", "_law_many", "_law_maps", "_law_k", "_law_way", "_law_base", "_law_place"]
theorem sc__law_turns : FnScope N__law_turns ["_law_source", "_law_most"] (defScope s__law_turns) := ⟨rfl, rfl, rfl, by decide +kernel, rfl, by decide +kernel, by decide +kernel⟩
abbrev s__law_text : Stmt := topS 26
abbrev N__law_text : List Str := ["_law_many", "_law_maps", "_law_words", "_law_one_here", "_law_place"]
theorem sc__law_text : FnScope N__law_text ["_law_many", "_law_maps"] (defScope s__law_text) := ⟨rfl, rfl, rfl, by decide +kernel, rfl, by decide +kernel, by decide +kernel⟩
abbrev s__law_right : Stmt := topS 27
abbrev N__law_right : List Str := ["_law_many", "_law_maps", "_law_turns_here", "_law_text_here", "_law_k", "_law_found"]
theorem sc__law_right : FnScope N__law_right ["_law_many", "_law_maps"] (defScope s__law_right) := ⟨rfl, rfl, rfl, by decide +kernel, rfl, by decide +kernel, by decide +kernel⟩
abbrev s_law : Stmt := topS 28
abbrev N_law : List Str := ["_law_script", "_law_cell", "_law_source", "_law_many", "_law_maps", "_law_k"]
theorem sc_law : FnScope N_law ["_law_script"] (defScope s_law) := ⟨rfl, rfl, rfl, by decide +kernel, rfl, by decide +kernel, by decide +kernel⟩
structure Tx (K : PySem.W.Frag) (mg : Str → Option Value) where
  a_is_whole : Addr
  d_is_whole : FuncData
  F_is_whole : Fun K "is_whole" "is_whole" s_is_whole a_is_whole d_is_whole
  b_is_whole : Binds K d_is_whole ["thing"] []
  g_is_whole : mg "is_whole" = some (.ref a_is_whole)
  a_is_between : Addr
  d_is_between : FuncData
  F_is_between : Fun K "is_between" "is_between" s_is_between a_is_between d_is_between
  b_is_between : Binds K d_is_between ["thing", "least", "most"] []
  g_is_between : mg "is_between" = some (.ref a_is_between)
  a_is_map : Addr
  d_is_map : FuncData
  F_is_map : Fun K "is_map" "is_map" s_is_map a_is_map d_is_map
  b_is_map : Binds K d_is_map ["thing", "many"] []
  g_is_map : mg "is_map" = some (.ref a_is_map)
  a_Turns_init : Addr
  d_Turns_init : FuncData
  F_Turns_init : Fun K "__init__" "Turns.__init__" s_Turns_init a_Turns_init d_Turns_init
  b_Turns_init : Binds K d_Turns_init ["self", "many", "maps"] []
  a_Turns_eq : Addr
  d_Turns_eq : FuncData
  F_Turns_eq : Fun K "__eq__" "Turns.__eq__" s_Turns_eq a_Turns_eq d_Turns_eq
  b_Turns_eq : Binds K d_Turns_eq ["self", "other"] []
  a_is_number : Addr
  d_is_number : FuncData
  F_is_number : Fun K "is_number" "is_number" s_is_number a_is_number d_is_number
  b_is_number : Binds K d_is_number ["word", "most"] []
  g_is_number : mg "is_number" = some (.ref a_is_number)
  a_number_of : Addr
  d_number_of : FuncData
  F_number_of : Fun K "number_of" "number_of" s_number_of a_number_of d_number_of
  b_number_of : Binds K d_number_of ["word", "low", "high"] []
  g_number_of : mg "number_of" = some (.ref a_number_of)
  a_show : Addr
  d_show : FuncData
  F_show : Fun K "show" "show" s_show a_show d_show
  b_show : Binds K d_show ["turns"] []
  g_show : mg "show" = some (.ref a_show)
  a_word_at : Addr
  d_word_at : FuncData
  F_word_at : Fun K "word_at" "word_at" s_word_at a_word_at d_word_at
  b_word_at : Binds K d_word_at ["words", "at"] []
  g_word_at : mg "word_at" = some (.ref a_word_at)
  a_map_at : Addr
  d_map_at : FuncData
  F_map_at : Fun K "map_at" "map_at" s_map_at a_map_at d_map_at
  b_map_at : Binds K d_map_at ["words", "at", "many"] []
  g_map_at : mg "map_at" = some (.ref a_map_at)
  a_read : Addr
  d_read : FuncData
  F_read : Fun K "read" "read" s_read a_read d_read
  b_read : Binds K d_read ["text"] []
  g_read : mg "read" = some (.ref a_read)
  a__law_cell_at : Addr
  d__law_cell_at : FuncData
  F__law_cell_at : Fun K "_law_cell_at" "_law_cell_at" s__law_cell_at a__law_cell_at d__law_cell_at
  b__law_cell_at : Binds K d__law_cell_at ["_law_script", "_law_k"] []
  g__law_cell_at : mg "_law_cell_at" = some (.ref a__law_cell_at)
  a__law_source_of : Addr
  d__law_source_of : FuncData
  F__law_source_of : Fun K "_law_source_of" "_law_source_of" s__law_source_of a__law_source_of d__law_source_of
  b__law_source_of : Binds K d__law_source_of ["_law_cell"] []
  g__law_source_of : mg "_law_source_of" = some (.ref a__law_source_of)
  a__law_next : Addr
  d__law_next : FuncData
  F__law_next : Fun K "_law_next" "_law_next" s__law_next a__law_next d__law_next
  b__law_next : Binds K d__law_next ["_law_source", "_law_many"] []
  g__law_next : mg "_law_next" = some (.ref a__law_next)
  a__law_one : Addr
  d__law_one : FuncData
  F__law_one : Fun K "_law_one" "_law_one" s__law_one a__law_one d__law_one
  b__law_one : Binds K d__law_one ["_law_source", "_law_some"] []
  g__law_one : mg "_law_one" = some (.ref a__law_one)
  a__law_turns : Addr
  d__law_turns : FuncData
  F__law_turns : Fun K "_law_turns" "_law_turns" s__law_turns a__law_turns d__law_turns
  b__law_turns : Binds K d__law_turns ["_law_source", "_law_most"] []
  g__law_turns : mg "_law_turns" = some (.ref a__law_turns)
  a__law_text : Addr
  d__law_text : FuncData
  F__law_text : Fun K "_law_text" "_law_text" s__law_text a__law_text d__law_text
  b__law_text : Binds K d__law_text ["_law_many", "_law_maps"] []
  g__law_text : mg "_law_text" = some (.ref a__law_text)
  a__law_right : Addr
  d__law_right : FuncData
  F__law_right : Fun K "_law_right" "_law_right" s__law_right a__law_right d__law_right
  b__law_right : Binds K d__law_right ["_law_many", "_law_maps"] []
  g__law_right : mg "_law_right" = some (.ref a__law_right)
  a_law : Addr
  d_law : FuncData
  F_law : Fun K "law" "law" s_law a_law d_law
  b_law : Binds K d_law ["_law_script"] []
  g_law : mg "law" = some (.ref a_law)
  C_Turns : Addr
  cl_Turns : Cls K C_Turns
  g_Turns : mg "Turns" = some (.ref C_Turns)
  mk_Turns : Mk K C_Turns a_Turns_init
  ic_Turns : C8.InsC K C_Turns
  m_Turns_eq : Meth K C_Turns "__eq__" a_Turns_eq
  na_Turns_many : NoAttr K C_Turns "many"
  na_Turns_maps : NoAttr K C_Turns "maps"
  z_all : mg "all" = none
  z_bool : mg "bool" = none
  z_int : mg "int" = none
  z_isinstance : mg "isinstance" = none
  z_len : mg "len" = none
  z_list : mg "list" = none
  z_min : mg "min" = none
  z_range : mg "range" = none
  z_str : mg "str" = none
  z_tuple : mg "tuple" = none
  t_FIGURES : Tok
  c_FIGURES : mg "FIGURES" = some (.str "0123456789" t_FIGURES)
  t_MOST_PLACES : Tok
  c_MOST_PLACES : mg "MOST_PLACES" = some (.int 32 t_MOST_PLACES)
  t_MOST_SIGNS : Tok
  c_MOST_SIGNS : mg "MOST_SIGNS" = some (.int 200 t_MOST_SIGNS)
section
variable {P : Program} {w : World} {K : PySem.W.Frag} {mg : Str → Option Value} {base : Heap}
local macro_rules | `(tactic| walk_at "rp") => `(tactic| first
  | assumption
  | exact (show _ = _ from rfl)
  | (apply rpm (Gr.ff (by assumption)); (case r => walk_at "rp"); (case m => infer_instance))
  | (apply rpm (by assumption); (case r => walk_at "rp"); (case m => infer_instance)))
local macro_rules | `(tactic| walk_at "ex") => `(tactic| first
  | assumption
  | exact Ex.refl _
  | exact Gr.fh (by assumption)
  | exact Gr.ff (by assumption)
  | (refine' Ex.trans ?_ (Gr.ff (by assumption)); walk_at "ex")
  | (refine' Ex.trans ?_ (by assumption); walk_at "ex"))
local macro_rules | `(tactic| walk_at "sd") => `(tactic| first | trivial | assumption | omega | exact atI_natL (by assumption) | exact ⟨by omega, by omega⟩)
local macro_rules | `(tactic| walk_at "n") => `(tactic| (repeat (first | with_reducible apply sn | with_reducible apply sq | (dsimp only))))
local macro_rules | `(tactic| walk_at "eo") => `(tactic| first
  | with_reducible exact eo_none
  | ((with_reducible apply eo_some); walk_at "ev"))
local macro_rules | `(tactic| walk_at "el") => `(tactic| first
  | with_reducible exact el_nil
  | ((with_reducible apply el_cons); (case h => walk_at "ev"); (case hr => walk_at "el"); (case m => infer_instance)))
local macro_rules | `(tactic| walk_at "et") => `(tactic| first
  | ((with_reducible apply et_test); walk_at "ev")
  | ((with_reducible apply et_B); walk_at "ev")
  | ((with_reducible apply et_not); walk_at "et")
  | ((with_reducible apply et_and); (case h1 => walk_at "et"); (case h2 => intro hh; clear hh; walk_at "et"))
  | ((with_reducible apply et_or); (case h1 => walk_at "et"); (case h2 => intro hh; clear hh; walk_at "et")))
local macro_rules | `(tactic| walk_at "ev") => `(tactic| first
  | with_reducible exact ev_int
  | with_reducible exact ev_bl
  | with_reducible exact ev_str
  | with_reducible exact ev_noneO
  | with_reducible exact ev_non
  | with_reducible exact ev_ty
  | with_reducible exact ev_ref
  | ((with_reducible apply ev_var); (case h => rfl); (case r => walk_at "rp"); (case m => infer_instance))
  | ((with_reducible apply ev_add); (case ha => walk_at "ev"); (case hb => walk_at "ev"))
  | ((with_reducible apply ev_sub); (case ha => walk_at "ev"); (case hb => walk_at "ev"))
  | ((with_reducible apply ev_mul); (case ha => walk_at "ev"); (case hb => walk_at "ev"); (try (case hc => walk_at "sd")))
  | ((with_reducible apply ev_mod); (case ha => walk_at "ev"); (case hb => walk_at "ev"); (try (case hc => walk_at "sd")))
  | ((with_reducible apply ev_fdiv); (case ha => walk_at "ev"); (case hb => walk_at "ev"); (try (case hc => walk_at "sd")))
  | ((with_reducible apply ev_pow); (case ha => walk_at "ev"); (case hb => walk_at "ev"); (try (case hc => walk_at "sd")))
  | ((with_reducible apply ev_lt); (case ha => walk_at "ev"); (case hb => walk_at "ev"))
  | ((with_reducible apply ev_le); (case ha => walk_at "ev"); (case hb => walk_at "ev"))
  | ((with_reducible apply ev_gt); (case ha => walk_at "ev"); (case hb => walk_at "ev"))
  | ((with_reducible apply ev_ge); (case ha => walk_at "ev"); (case hb => walk_at "ev"))
  | ((with_reducible apply ev_chain); (case ha => walk_at "ev"); (case hb => walk_at "ev"); (case hc => walk_at "ev"))
  | ((with_reducible apply ev_eqI); (case ha => walk_at "ev"); (case hb => walk_at "ev"))
  | ((with_reducible apply ev_neI); (case ha => walk_at "ev"); (case hb => walk_at "ev"))
  | ((with_reducible apply ev_eqS); (case ha => walk_at "ev"); (case hb => walk_at "ev"))
  | ((with_reducible apply ev_neS); (case ha => walk_at "ev"); (case hb => walk_at "ev"))
  | ((with_reducible apply ev_isN); (case ha => walk_at "ev"); (case n => infer_instance))
  | ((with_reducible apply ev_notN); (case ha => walk_at "ev"); (case n => infer_instance))
  | ((with_reducible apply ev_neg); walk_at "ev")
  | ((with_reducible apply ev_fld); (case ha => walk_at "ev"); (case c => infer_instance))
  | ((with_reducible apply ev_lenL); walk_at "ev")
  | ((with_reducible apply ev_lenT); walk_at "ev")
  | ((with_reducible apply ev_lenOwn); (case ha => walk_at "ev"); (try (case hz => walk_at "sd")))
  | ((with_reducible apply ev_lenSet); (case ha => walk_at "ev"); (try (case hz => walk_at "sd")))
  | ((with_reducible apply ev_call1); (case ha => walk_at "ev"); (try (case p => walk_at "sd")))
  | ((with_reducible apply ev_call2); (case ha => walk_at "ev"); (case hb => walk_at "ev"); (try (case p => walk_at "sd")); (case m => infer_instance))
  | ((with_reducible apply ev_call3); (case ha => walk_at "ev"); (case hb => walk_at "ev"); (case hc => walk_at "ev"); (try (case p => walk_at "sd")); (case m => infer_instance); (case n => infer_instance))
  | ((with_reducible apply ev_call4); (case ha => walk_at "ev"); (case hb => walk_at "ev"); (case hc => walk_at "ev"); (case hd => walk_at "ev"); (try (case p => walk_at "sd")); (case m => infer_instance); (case n => infer_instance); (case o => infer_instance))
  | ((with_reducible apply ev_meth0); (case ha => walk_at "ev"); (try (case p => walk_at "sd")))
  | ((with_reducible apply ev_meth1); (case ha => walk_at "ev"); (case hb => walk_at "ev"); (try (case p => walk_at "sd")); (case m' => infer_instance))
  | ((with_reducible apply ev_meth2); (case ha => walk_at "ev"); (case hb => walk_at "ev"); (case hc => walk_at "ev"); (try (case p => walk_at "sd")); (case m' => infer_instance); (case n' => infer_instance))
  | ((with_reducible apply ev_fst); (case ha => walk_at "ev"); (case m => infer_instance))
  | ((with_reducible apply ev_snd); (case ha => walk_at "ev"); (case m => infer_instance))
  | ((with_reducible apply ev_ixL); (case ha => walk_at "ev"); (case hb => walk_at "ev"); (try (case h => walk_at "sd")); (case m => infer_instance))
  | ((with_reducible apply ev_ixT); (case ha => walk_at "ev"); (case hb => walk_at "ev"); (try (case h => walk_at "sd")); (case m => infer_instance))
  | ((with_reducible apply ev_isIntInt); walk_at "ev")
  | ((with_reducible apply ev_isIntBool); walk_at "ev")
  | ((with_reducible apply ev_isTup); walk_at "ev")
  | ((with_reducible apply ev_isLst); walk_at "ev")
  | ((with_reducible apply ev_isStr); walk_at "ev")
  | ((with_reducible apply ev_tupL); (case ha => walk_at "ev"); (case m => infer_instance))
  | ((with_reducible apply ev_listL); (case ha => walk_at "ev"); (case m => infer_instance))
  | ((with_reducible apply ev_listT); (case ha => walk_at "ev"); (case m => infer_instance))
  | ((with_reducible apply ev_tupRg); (case ha => walk_at "ev"); (try (case hn => walk_at "sd")))
  | ((with_reducible apply ev_lstRg); (case ha => walk_at "ev"); (try (case hn => walk_at "sd")))
  | ((with_reducible apply ev_all); walk_at "ev")
  | ((with_reducible apply ev_any); walk_at "ev")
  | ((with_reducible apply ev_sum); walk_at "ev")
  | ((with_reducible apply ev_notV); walk_at "ev")
  | ((with_reducible apply ev_andV); (case h1 => walk_at "ev"); (case h2 => intro hh; clear hh; walk_at "ev"))
  | ((with_reducible apply ev_orV); (case h1 => walk_at "ev"); (case h2 => intro hh; clear hh; walk_at "ev"))
  | ((with_reducible apply ev_cat); (case ha => walk_at "ev"); (case hb => walk_at "ev"); (try (case hz => walk_at "sd")); (case m => infer_instance))
  | ((with_reducible apply ev_lst); (case h => walk_at "el"); (try (case hz => simp only [List.length_cons, List.length_nil, sizeLine_eq]; omega)); (case m => infer_instance))
  | ((with_reducible apply ev_tup); (case h => walk_at "el"); (try (case hz => simp only [List.length_cons, List.length_nil, sizeLine_eq]; omega)); (case m => infer_instance))
  | ((with_reducible apply ev_pr); (case ha => walk_at "ev"); (case hb => walk_at "ev"); (case m => infer_instance); (case n => infer_instance))
  | ((with_reducible apply ev_slL); (case h => walk_at "ev"); (case h1 => walk_at "eo"); (case h2 => walk_at "eo"); (case m => infer_instance))
  | ((with_reducible apply ev_rep1); (case ha => walk_at "ev"); (case hb => walk_at "ev"); (try (case hn => walk_at "sd")); (try (case h0 => walk_at "sd")); (case m => infer_instance))
  | ((with_reducible apply Ev.nat); walk_at "ev"))

abbrev sp_is_whole (T : Tx K mg) : Sp := Sp1 rInt (fun _ => True) rBl (fun _ => true)
theorem ok_is_whole (T : Tx K mg) : FnOk P w K mg base CX0 1 T.a_is_whole T.d_is_whole ["thing"] (sp_is_whole T) := by
  refine T.F_is_whole.ok sc_is_whole (fun vs H Q E h => SpLen.len h) (fun cdv A outer s H vs Q E hr h => ?_)
  obtain ⟨F, v, x, rfl, e, r, -, k⟩ := h
  refine ⟨_, (by exact (pss_one (ps_ret (pe_and (pe_callB (r := rIsi K) call_isi (by rfl) T.z_isinstance (by decide +kernel) (pa_cons (pv 0) (pa_cons (pe_bltn (v := .ty "int") (by rfl) T.z_int (by decide +kernel) rfl) pa_nil))) (pe_one (pe_not (pe_callB (r := rIsi K) call_isi (by rfl) T.z_isinstance (by decide +kernel) (pa_cons (pv 0) (pa_cons (pe_bltn (v := .ty "bool") (by rfl) T.z_bool (by decide +kernel) rfl) pa_nil))))))))), ?_⟩
  try dsimp only [cxOf]
  apply x_ret e
  case h => walk_at "ev"
  exact k

abbrev sp_is_between (T : Tx K mg) : Sp := Sp3 rInt rInt rInt (fun _ _ _ => True) rBl (fun x y z => decide (y ≤ x) && decide (x ≤ z))
theorem ok_is_between (T : Tx K mg) : FnOk P w K mg base CX0 2 T.a_is_between T.d_is_between ["thing", "least", "most"] (sp_is_between T) := by
  refine T.F_is_between.ok sc_is_between (fun vs H Q E h => SpLen.len h) (fun cdv A outer s H vs Q E hr h => ?_)
  obtain ⟨F, v, w, u, x, y, z, rfl, e, r1, r2, r3, -, k⟩ := h
  refine ⟨_, (by exact (pss_one (ps_ret (pe_and (pe_call (ok_is_whole T) (hr.mono (by decide)) rfl T.g_is_whole T.F_is_whole.kp T.b_is_whole .nil pass0 (pa_cons (pv 0) pa_nil)) (pe_one (pe_chain op_le op_le (pv 1) (pv 0) (pv 2))))))), ?_⟩
  try dsimp only [cxOf]
  apply x_ret e
  case h => walk_at "ev"
  intro v F' H' g r
  rw [Bool.true_and] at r
  exact k v F' H' g r

instance {T : Tx K mg} : IsF (rTurns T.C_Turns) K "many" rNat Tn.many := fld_many T.cl_Turns T.na_Turns_many
instance {T : Tx K mg} : IsF (rTurns T.C_Turns) K "maps" (rLst (rTup rNat)) Tn.maps := fld_maps T.cl_Turns T.na_Turns_maps
abbrev sp_is_map (T : Tx K mg) : Sp := Sp2 (rTup rNat) rNat (fun m n => IsMap n m ∧ n ≤ 1000) rBl (fun _ _ => true)
theorem ok_is_map (T : Tx K mg) : FnOk P w K mg base CX0 3 T.a_is_map T.d_is_map ["thing", "many"] (sp_is_map T) := by
  refine T.F_is_map.ok sc_is_map (fun vs H Q E h => SpLen.len h) (fun cdv A outer s H vs Q E hr h => ?_)
  obtain ⟨F, v, w, m, n, rfl, e, r1, r2, ⟨p, pn⟩, k⟩ := h
  cases (show w = _ from r2)
  refine ⟨_, (by exact (pss_one (ps_ret (pe_and (pe_callB (r := rIsi K) call_isi (by rfl) T.z_isinstance (by decide +kernel) (pa_cons (pv 0) (pa_cons (pe_bltn (v := .ty "tuple") (by rfl) T.z_tuple (by decide +kernel) rfl) pa_nil))) (pe_and (pe_cmpR op_eq (pe_callB (r := rLenS K) call_len_seq (by rfl) T.z_len PySem.boot_len (pa_cons (pv 0) pa_nil)) (pv 1) (nomark _)) (pe_one (pe_callB (r := rAll K) (cr_all rfl) (by rfl) T.z_all (by decide +kernel) (pa_cons (pe_lc (own := [("to", 2)]) (g := gName 2) (tt := tYes) rfl sc_is_map.nd (ktup K (pv 0)) (blkOk_by (own := [("to", 2)]) (N := N_is_map) (sc := defScope s_is_map) (by decide +kernel)) (fun _ _ _ _ _ => (pg_name (i := 2) sc_is_map.nd rfl (by first | exact Or.inl rfl | exact Or.inr rfl))) (fun _ _ _ _ _ => pts_nil) (fun _ _ _ _ _ => (pe_call (ok_is_between T) (hr.mono (by decide)) rfl T.g_is_between T.F_is_between.kp T.b_is_between .nil pass0 (pa_cons (pv 2) (pa_cons pe_int (pa_cons (pe_op op_sub (pv 1) pe_int) pa_nil)))))) pa_nil)))))))), ?_⟩
  try dsimp only [cxOf]
  apply x_ret e
  case h =>
    refine ev_andV (a := true) (b := true) ?_ fun _ => ev_andV (a := true) (b := true) ?_ fun _ => ?_
    · walk_at "ev"
    · exact (Ev.is (ev_eqI (ev_lenT (ev_var rfl r1)) (ev_var rfl rfl)) (by rw [p.1]; simp))
    · refine (ev_all (ev_lcTm (R := rNat) (fun _ => true) (ev_var rfl r1) (by rw [p.1]; omega) (fun v => rfl) ?_)).is (List.all_eq_true.mpr fun b hb => ?_)
      · intro i x v F1 H1 hx g r
        cases (show v = _ from r)
        have := p.2 x (mem_of_at hx)
        apply Ev.is
        · walk_at "ev"
        · rw [decide_eq_true (by omega), decide_eq_true (by omega)] <;> rfl
      · obtain ⟨x, hx, rfl⟩ := List.mem_map.mp hb
        rfl
  exact k
abbrev sp_Turns_init (T : Tx K mg) : Sp := SpTurns T.C_Turns
theorem ok_Turns_init (T : Tx K mg) : FnOk P w K mg base CX0 4 T.a_Turns_init T.d_Turns_init ["self", "many", "maps"] (sp_Turns_init T) := by
  refine T.F_Turns_init.ok sc_Turns_init (fun vs H Q E h => SpLen.len h) (fun cdv A outer s H vs Q E hr h => ?_)
  obtain ⟨F, a, dx, l, t, rfl, e, fa, ha, rl, k⟩ := h
  have t0 := t.h0
  have t1 := t.h1
  have t2 := t.h2
  have t3 := t.h3
  refine ⟨_, (by exact (pss_cons (ps_if (pt_not (pt_val (pe_call (ok_is_between T) (hr.mono (by decide)) rfl T.g_is_between T.F_is_between.kp T.b_is_between .nil pass0 (pa_cons (pv 1) (pa_cons pe_int (pa_cons (pe_glob (v := .int 32) rfl T.c_MOST_PLACES ⟨_, rfl⟩) pa_nil)))))) (pss_one ps_never) pss_nil)
      (pss_cons (ps_if (PW.pt (pw_or (pt_not (pt_val (pe_callB (r := rIsi K) call_isi (by rfl) T.z_isinstance (by decide +kernel) (pa_cons (pv 2) (pa_cons (pe_bltn (v := .ty "list") (by rfl) T.z_list (by decide +kernel) rfl) pa_nil))))) (pw_or1 (pt_not (pt_chain op_le op_le pe_int (pe_callB (r := rLenS K) call_len_seq (by rfl) T.z_len PySem.boot_len (pa_cons (pv 2) pa_nil)) (pe_glob (v := .int 200) rfl T.c_MOST_SIGNS ⟨_, rfl⟩)))))) (pss_one ps_never) pss_nil)
      (pss_cons (ps_if (pt_not (pt_val (pe_callB (r := rAll K) (cr_all rfl) (by rfl) T.z_all (by decide +kernel) (pa_cons (pe_lc (own := [("one", 3)]) (g := gName 3) (tt := tYes) rfl sc_Turns_init.nd (klist K (pv 2)) (blkOk_by (own := [("one", 3)]) (N := N_Turns_init) (sc := defScope s_Turns_init) (by decide +kernel)) (fun _ _ _ _ _ => (pg_name (i := 3) sc_Turns_init.nd rfl (by first | exact Or.inl rfl | exact Or.inr rfl))) (fun _ _ _ _ _ => pts_nil) (fun _ _ _ _ _ => (pe_call (ok_is_map T) (hr.mono (by decide)) rfl T.g_is_map T.F_is_map.kp T.b_is_map .nil pass0 (pa_cons (pv 3) (pa_cons (pv 1) pa_nil))))) pa_nil)))) (pss_one ps_never) pss_nil)
      (pss_cons (kset K (pv 0) (pv 1) rfl)
      (pss_one (kset K (pv 0) (pe_callTy (r := rListS K) call_list_of (by rfl) T.z_list (by decide +kernel) (pa_cons (pv 2) pa_nil)) rfl))))))), ?_⟩
  try dsimp only [cxOf]
  refine x_if (b := false) e (EvT.is (b := !true) ?_ rfl) (fun z => nomatch z) fun _ F1 H1 g1 => ?_
  · apply et_not
    apply et_B
    apply Ev.is
    · walk_at "ev"
    · rw [decide_eq_true (by omega), decide_eq_true (by omega)] <;> rfl
  walk_at "n"
  refine x_if (b := false) g1.fh (EvT.is (b := false || false) ?_ rfl) (fun z => nomatch z) fun _ F2 H2 g2 => ?_
  · refine et_or (EvT.is (b := !true) (et_not (et_B ?_)) rfl) fun _ => EvT.is (b := !true) (et_not (et_test ?_)) rfl
    · walk_at "ev"
    · apply Ev.is
      · walk_at "ev"
      · rw [decide_eq_true (by omega), decide_eq_true (by omega)] <;> rfl
  walk_at "n"
  refine x_if (b := false) g2.fh (EvT.is (b := !true) (et_not (et_B ?_)) rfl) (fun z => nomatch z) fun _ F3 H3 g3 => ?_
  · refine (ev_all (ev_lcm (R := rTup rNat) (fun _ => true) (ev_var rfl (by walk_at "rp")) (by omega) (fun v => rfl) ?_)).is (List.all_eq_true.mpr fun b hb => ?_)
    · intro i x v F1 H1 hx g r
      have := t.h4 x (mem_of_at hx)
      refine ev_call2 (ev_var rfl r) (ev_var rfl rfl) ⟨this, by omega⟩
    · obtain ⟨x, hx, rfl⟩ := List.mem_map.mp hb
      rfl
  walk_at "n"
  refine x_fld g3.fh (ev_var rfl (show rInt _ _ (t.many : Int) from rfl)) (ev_var rfl (show rRef _ _ a from rfl)) (g3.hx _ _ (g2.hx _ _ (g1.hx _ _ ha))) T.cl_Turns T.na_Turns_many (by decide) fun v F4 H4 g4 r4 h4 => ?_
  cases (show v = _ from r4)
  have g := (g1.trans g2).trans (g3.trans g4)
  have f4 : F4 a = none := g.nn ha fa
  have gg : Gr (El.M1 a) F H F4 (upd H4 a (.ins T.C_Turns dx (putF "many" (V.int t.many) []))) := g.up.set' f4 (.inr rfl)
  walk_at "n"
  refine x_fld gg.fh (ev_listL (ev_var rfl (by walk_at "rp"))) (ev_var rfl (show rRef _ _ a from rfl)) upd_same T.cl_Turns T.na_Turns_maps (by show 1 < 1000; decide) fun v F5 H5 g5 r5 h5 => ?_
  have g6 := (gg.trans g5.up).set' (o := .ins T.C_Turns dx (putF "maps" v (putF "many" (V.int t.many) []))) (g5.nn upd_same f4) (.inr rfl)
  exact k _ _ (g6.frz upd_same fa (.inr rfl)) ⟨a, dx, v, rfl, upd_same, Mn.mono (Ex.frz g6.fh upd_same (g5.nn upd_same f4)) r5⟩

abbrev sp_Turns_eq (T : Tx K mg) : Sp := spEq (REq T.C_Turns)
theorem ok_Turns_eq (T : Tx K mg) : FnOk P w K mg base CX0 1 T.a_Turns_eq T.d_Turns_eq ["self", "other"] (sp_Turns_eq T) := by
  refine T.F_Turns_eq.ok sc_Turns_eq (fun vs H Q E h => SpLen.len h) (fun cdv A outer s H vs Q E hr h => ?_)
  obtain ⟨a, b, rfl, ⟨F, t, e, r1, r2⟩, k⟩ := h
  have t1 := t.h1
  refine ⟨_, (by exact (pss_cons (ps_if (pt_not (pt_val (pe_callB (r := rIsC T.C_Turns) (C8.call_isC T.ic_Turns) (by rfl) T.z_isinstance (by decide +kernel) (pa_cons (pv 1) (pa_cons (pe_glob (v := .ref T.C_Turns) rfl T.g_Turns rfl) pa_nil))))) (pss_one (ps_ret pe_bl)) pss_nil)
      (pss_one (ps_ret (pe_and (pe_cmpR op_eq (kfld K (pv 0) rfl) (kfld K (pv 1) rfl) (nomark _)) (pe_one (pe_cmpR (r := rEqD K) (op_eqD hr.units) (kfld K (pv 0) rfl) (kfld K (pv 1) rfl) (nomark _)))))))), ?_⟩
  walk_at "n"
  refine x_if (b := false) e (EvT.is (b := !true) (et_not (et_B (ev_isTurns (ev_var rfl r2)))) rfl) (fun z => nomatch z) fun _ F1 H1 g1 => ?_
  walk_at "n"
  refine x_ret g1.fh (Ev.is (x' := true) (ev_andV (ev_eqI (ev_fld (ev_var rfl (Mn.mono g1.ff r1))).nat (ev_fld (ev_var rfl (Mn.mono g1.ff r2))).nat) fun _ => ev_eqD (ev_fld (ev_var rfl (Mn.mono g1.ff r1))) (ev_fld (ev_var rfl (Mn.mono g1.ff r2)))) (by simp)) fun v F2 H2 g2 r => ?_
  cases (show v = _ from r)
  exact k _ ((g1.trans g2).hx)
theorem ev_as_num {σ : St} {F H : Hp} {te : TE} {s : Str} {n : Nat} (h : Ev rStr te σ F H s) (e : s = num n) : Ev rNum te σ F H n := by
  subst e
  exact h

abbrev sp_is_number (T : Tx K mg) : Sp := Sp2 rNum rInt (fun n most => n < 100 ∧ most = 2) rBl (fun _ _ => true)
theorem ok_is_number (T : Tx K mg) : FnOk P w K mg base CX0 1 T.a_is_number T.d_is_number ["word", "most"] (sp_is_number T) := by
  refine T.F_is_number.ok sc_is_number (fun vs H Q E h => SpLen.len h) (fun cdv A outer s H vs Q E hr h => ?_)
  obtain ⟨F, v, w, n, most, rfl, e, r1, r2, ⟨hn, hm⟩, k⟩ := h
  cases (show w = _ from r2)
  subst hm
  have rs : rStr F v (num n) := r1
  have l2 := len_num hn
  have l1 := len_num1 n
  have ri : ∀ F (i : Int), rInt F (.int i) i := fun F i => rfl
  refine ⟨_, (by exact (pss_cons (ps_if (PW.pt (pw_or (pt_not (pt_chain op_le op_le pe_int (pe_callB call_len_str (by rfl) T.z_len PySem.boot_len (pa_cons (pv 0) pa_nil)) (pv 1))) (pw_or1 (pt_not (pt_val (pe_callB (r := rAll K) (cr_all rfl) (by rfl) T.z_all (by decide +kernel) (pa_cons (pe_lc (own := [("sign", 2)]) (g := gName 2) (tt := tYes) rfl sc_is_number.nd (pi_str (pv 0)) (blkOk_by (own := [("sign", 2)]) (N := N_is_number) (sc := defScope s_is_number) (by decide +kernel)) (fun _ _ _ _ _ => (pg_name (i := 2) sc_is_number.nd rfl (by first | exact Or.inl rfl | exact Or.inr rfl))) (fun _ _ _ _ _ => pts_nil) (fun _ _ _ _ _ => (pe_cmpR op_in_sign (pv 2) (pe_glob (v := .str "0123456789") rfl T.c_FIGURES ⟨_, rfl⟩) rfl))) pa_nil))))))) (pss_one (ps_ret pe_bl)) pss_nil)
      (pss_one (ps_ret (pe_or (pe_cmpR op_eq (pv 0) pe_str (nomark _)) (pe_one (pe_cmpR op_ne (pe_ix ix_str (pv 0) pe_int (fun _ _ => rfl)) pe_str (nomark _)))))))), ?_⟩
  walk_at "n"
  refine x_if (b := false) e (EvT.is (et_or (et_not (et_test (ev_chain ev_int (ev_lenStr (by rw [sizeLine_eq]; omega) (ev_var rfl rs)) (ev_var rfl (ri _ 2))))) fun _ => et_not (et_B (ev_all (ev_lcS (S := rBl) (ys := List.replicate (num n).cps.size true) (ev_var rfl rs) (by rw [List.length_replicate]) (by rw [num_size]; omega) (fun v => rfl) ?_)))) ?_) (fun z => nomatch z) fun _ F1 H1 g1 => ?_
  · intro i c y F1 H1 hc hy g
    have hy2 : y = true := (List.mem_replicate.mp (List.mem_of_getElem? hy)).2
    subst hy2
    exact Ev.is (ev_inSign (ev_var rfl (show rStr _ _ _ from rfl)) ev_str) (in_figures (num_figure hc))
  · rw [decide_eq_true (show (1 : Int) ≤ ((num n).length : Int) by omega), decide_eq_true (show ((num n).length : Int) ≤ 2 by omega)]
    have : (List.replicate (num n).cps.size true).all id = true := List.all_eq_true.mpr fun b hb => (List.mem_replicate.mp hb).2
    simp [this]
  obtain ⟨c, hc, hz⟩ := num_first hn
  have rs1 : rStr F1 v (num n) := rs
  walk_at "n"
  refine x_ret g1.fh (Ev.is (x' := true) (ev_orV (ev_eqS (ev_var rfl rs1) ev_str) fun _ => ev_neS (ev_ixS (ev_var rfl rs1) ev_int (by rw [sizeLine_eq]; omega) hc) ev_str) ?_) fun v F2 H2 g2 r => k v F2 H2 (g1.trans g2) r
  rcases hz with rfl | hz
  · rw [decide_eq_true num_zero]; rfl
  · rw [decide_eq_false (chr_ne hz)]; simp
abbrev sp_number_of (T : Tx K mg) : Sp := Sp3 rNum rInt rInt (fun n lo hi => n < 100 ∧ lo ≤ (n : Int) ∧ (n : Int) ≤ hi) (rOpt rNat) (fun n _ _ => some n)
theorem ok_number_of (T : Tx K mg) : FnOk P w K mg base CX0 2 T.a_number_of T.d_number_of ["word", "low", "high"] (sp_number_of T) := by
  refine T.F_number_of.ok sc_number_of (fun vs H Q E h => SpLen.len h) (fun cdv A outer s H vs Q E hr h => ?_)
  obtain ⟨F, v, w, u, n, lo, hi, rfl, e, r1, r2, r3, ⟨hn, h1, h2⟩, k⟩ := h
  cases (show w = _ from r2)
  cases (show u = _ from r3)
  have rs : rStr F v (num n) := r1
  have l2 := len_num hn
  have ri : ∀ F (i : Int), rInt F (.int i) i := fun F i => rfl
  refine ⟨_, (by exact (pss_cons (ps_if (PW.pt (pw_or (pt_not (pt_val (pe_call (ok_is_number T) (hr.mono (by decide)) rfl T.g_is_number T.F_is_number.kp T.b_is_number .nil pass0 (pa_cons (pv 0) (pa_cons pe_int pa_nil))))) (pw_or1 (pt_not (pt_chain op_le op_le (pv 1) (pe_callTy call_int_str (by rfl) T.z_int (by decide +kernel) (pa_cons (pv 0) pa_nil)) (pv 2)))))) (pss_one (ps_ret pe_non)) pss_nil)
      (pss_one (ps_ret (pe_callTy call_int_str (by rfl) T.z_int (by decide +kernel) (pa_cons (pv 0) pa_nil)))))), ?_⟩
  walk_at "n"
  refine x_if (b := false) e (EvT.is (et_or (et_not (et_B (ev_call2 (ev_var rfl r1) ev_int ⟨hn, rfl⟩))) fun _ => et_not (et_test (ev_chain (ev_var rfl (ri _ lo)) (ev_intS (ev_var rfl rs) (int_ofNum hn) (by omega)) (ev_var rfl (ri _ hi))))) ?_) (fun z => nomatch z) fun _ F1 H1 g1 => ?_
  · rw [decide_eq_true h1, decide_eq_true h2]; rfl
  walk_at "n"
  exact x_ret g1.fh (ev_someO (R := rNat) (Ev.toNat (ev_intS (ev_var rfl (show rStr _ _ _ from rs)) (int_ofNum hn) (by omega)))) fun v F2 H2 g2 r => k v F2 H2 (g1.trans g2) r
theorem words_app {many : Nat} {xs : List (List Nat)} {i : Nat} {x : List Nat} (h : xs[i]? = some x) : wordsM many (xs.take (i + 1)) = wordsM many (xs.take i) ++ (("/" : Str) :: x.map num) := by
  unfold wordsM
  rw [List.take_add_one, h, List.map_append, List.flatten_append]
  show num many :: (_ ++ (wordsOf x ++ [])) = _
  rw [List.append_nil]
  rfl
theorem wordsM_nil (many : Nat) : wordsM many [] = [num many] := rfl
theorem words_take_len {many : Nat} {xs : List (List Nat)} {i : Nat} (h : ∀ m ∈ xs, IsMap many m) (h0 : many ≤ 32) (h1 : xs.length ≤ 200) : (wordsM many (xs.take i)).length ≤ 6601 := words_le h0 (by rw [List.length_take]; omega) fun m hm => h m (List.mem_of_mem_take hm)
abbrev sp_show (T : Tx K mg) : Sp := Sp1 (rTurns T.C_Turns) (fun _ => True) rStr (fun t => textM t.many t.maps)
theorem ev_places {σ : St} {F H : Hp} {ta : TE} {te : TE} {n : Nat} {vs : List Nat} {x : List Nat} (h : Ev (rTup rNat) ta σ F H x) (hx : ∀ y ∈ x, y < 1000000) (hz : x.length ≤ 1000000) (hw : ∀ v, wipe ((wipe σ vs).set n (some v)) vs = wipe σ vs)
    (he : ∀ (i : Nat) (y : Nat) v F1 H1, x[i]? = some y → Gr M0 F H F1 H1 → rNat F1 v y → Ev rNum te ((wipe σ vs).set n (some v)) F1 H1 y) : Ev (rLst rStr) (tLc (iTup K ta) (gName n) tYes te vs) σ F H (x.map num) :=
  ev_lcT (S := rStr) h (by rw [List.length_map]) hz hw fun i y z v F1 H1 hy hz g r => by
    rw [List.getElem?_map, hy] at hz
    cases hz
    exact (he i y v F1 H1 hy g r).str
theorem ok_show (T : Tx K mg) : FnOk P w K mg base CX0 1 T.a_show T.d_show ["turns"] (sp_show T) := by
  refine T.F_show.ok sc_show (fun vs H Q E h => SpLen.len h) (fun cdv A outer s H vs Q E hr h => ?_)
  obtain ⟨F, v, t, rfl, e, r, -, k⟩ := h
  have t1 := t.h1
  have t3 := t.h3
  have hmp : ∀ m ∈ t.maps, IsMap t.many m := t.h4
  refine ⟨_, (by exact (pss_cons (ps_set (i := 1) sc_show.nd rfl (Or.inl rfl) (pe_lst (pa_cons (pe_callTy call_str_int (by rfl) T.z_str (by decide +kernel) (pa_cons (kfld K (pv 0) rfl) pa_nil)) pa_nil)))
      (pss_cons (ps_for PassesOwn.never rfl (klist K (kfld K (pv 0) rfl)) (pg_name (i := 2) sc_show.nd rfl (by first | exact Or.inl rfl | exact Or.inr rfl)) (pss_cons (ps_expr (kbm K PySem.F.plainAttrs_list PySem.F.slot_list_append PySem.F.type_list_append mt_append (pv 1) (pa_cons pe_str pa_nil)))
      (pss_one (ps_expr (kbm K PySem.F.plainAttrs_list PySem.F.slot_list_extend PySem.F.type_list_extend mt_extend (pv 1) (pa_cons (pe_lc (own := [("place", 3)]) (g := gName 3) (tt := tYes) rfl sc_show.nd (ktup K (pv 2)) (blkOk_by (own := [("place", 3)]) (N := N_show) (sc := defScope s_show) (by decide +kernel)) (fun _ _ _ _ _ => (pg_name (i := 3) sc_show.nd rfl (by first | exact Or.inl rfl | exact Or.inr rfl))) (fun _ _ _ _ _ => pts_nil) (fun _ _ _ _ _ => (pe_callTy call_str_int (by rfl) T.z_str (by decide +kernel) (pa_cons (pv 3) pa_nil)))) pa_nil))))))
      (pss_one (ps_ret (pe_join pe_str (pv 1))))))), ?_⟩
  walk_at "n"
  refine x_lst1 (R := rNum) e (ev_strN (ev_fld (ev_var rfl r)).nat (by omega)) fun v1 l F1 H1 g1 r1 hl => ?_
  cases (show v1 = _ from r1)
  have fl1 : F1 l = none := g1.fh.free hl
  have hl0 : H l = none := Ex.free g1.hx hl
  have G1 : Gr M0 F H F1 (upd H1 l (.lst [.str (num t.many)])) := g1.trans (.loc g1.fh hl)
  walk_at "n"
  refine x_forL G1.fh (ev_fld (ev_var rfl (Mn.mono g1.ff r)))
    (fun i σ' F' H' => Gr M0 F H F' H' ∧ F' l = none ∧ H' l = some (.lst ((wordsM t.many (t.maps.take i)).map V.str)) ∧ ∃ y y2, σ' = [some v, some (.ref l), y, y2])
    (fun F2 H2 g2 => ⟨G1.trans g2, g2.nn upd_same fl1, g2.hx _ _ upd_same, none, none, rfl⟩) ?_ ?_
  · rintro F2 e2 i x u σ' F' H' hx e3 e4 rx ⟨g, fl, hH, y, y2, rfl⟩
    have hxm := hmp x (mem_of_at hx)
    have hlen := words_take_len (i := i) hmp (by omega) (by omega)
    walk_at "n"
    refine x_app (R := rStr) (x := ("/" : Str)) e4 (ev_var rfl (show rRef _ _ l from rfl)) hH ev_str (by rw [List.length_map, sizeLine_eq]; omega) fun v5 F5 H5 g5 r5 h5 => ?_
    cases (show v5 = _ from r5)
    have fl5 : F5 l = none := g5.nn hH fl
    have G5 := (g.trans g5).set' (o := .lst ((wordsM t.many (t.maps.take i)).map V.str ++ [.str ("/" : Str)])) fl5 (.inl hl0)
    walk_at "n"
    refine x_ext (R := rStr) (zs := x.map num) G5.fh (ev_var rfl (show rRef _ _ l from rfl)) upd_same (ev_places (ev_var rfl (Mn.mono g5.ff rx)) (fun y hy => by have := hxm.2 y hy; omega) (by rw [hxm.1]; omega) (fun v => rfl) fun i' y' v' F6 H6 hy g6 r6 => ?_) (by rw [List.length_append, List.length_map, List.length_map, hxm.1, sizeLine_eq]; show _ + 1 + _ ≤ _; omega) fun ws F7 H7 g7 p7 h7 => ?_
    · have := hxm.2 y' (mem_of_at hy)
      exact ev_strN (Ev.nat (ev_var rfl r6)) (by omega)
    · have fl7 := g7.nn upd_same fl5
      have G7 := (G5.trans g7).set' (o := .lst ((wordsM t.many (t.maps.take i)).map V.str ++ [.str ("/" : Str)] ++ ws)) fl7 (.inl hl0)
      refine ⟨F7, e3.trans (g5.ff.trans g7.ff), G7.fh, G7, fl7, ?_, _, _, rfl⟩
      rw [upd_same, words_app hx, List.map_append, strs_paired p7, List.append_assoc]
      rfl
  · rintro σ' F' H' e1 e2 ⟨g, fl, hH, y, y2, rfl⟩
    rw [List.take_length] at hH
    walk_at "n"
    exact x_ret (x := textM t.many t.maps) e2 (ev_joinM ev_str (ev_var rfl (show rRef _ _ l from rfl)) hH (words_fit (by omega) (by omega) hmp)) fun v' F2 H2 g2 r2 => k v' F2 H2 (g.trans g2) r2
abbrev sp_word_at (T : Tx K mg) : Sp := Sp2 (rLst rStr) rNat (fun ws a => a < ws.length) rStr (fun ws a => ws.getD a Str.empty)
theorem ok_word_at (T : Tx K mg) : FnOk P w K mg base CX0 1 T.a_word_at T.d_word_at ["words", "at"] (sp_word_at T) := by
  refine T.F_word_at.ok sc_word_at (fun vs H Q E h => SpLen.len h) (fun cdv A outer s H vs Q E hr h => ?_)
  obtain ⟨F, v, w, ws, a, rfl, e, r1, r2, ha, k⟩ := h
  cases (show w = _ from r2)
  refine ⟨_, (by exact (pss_cons (ps_if (pt_cmpR op_ge (pv 1) (pe_callB (r := rLenS K) call_len_seq (by rfl) T.z_len PySem.boot_len (pa_cons (pv 0) pa_nil)) (nomark _)) (pss_one ps_never) pss_nil)
      (pss_one (ps_ret (pe_ix (r := rIxL K) ix_list (pv 0) (pv 1) (fun _ _ => rfl)))))), ?_⟩
  walk_at "n"
  refine x_if (b := false) e (EvT.is (et_test (ev_ge (ev_var rfl (show rInt _ _ (a : Int) from rfl)) (ev_lenL (ev_var rfl r1)))) (decide_eq_false (by omega))) (fun z => nomatch z) fun _ F1 H1 g1 => ?_
  walk_at "n"
  exact x_ret g1.fh (ev_ixL (ev_var rfl (Mn.mono g1.ff r1)) (ev_var rfl (show rInt _ _ (a : Int) from rfl)) (atI_natL (getD_at ha))) fun v F2 H2 g2 r => k v F2 H2 (g1.trans g2) r
abbrev sp_map_at (T : Tx K mg) : Sp := Sp3 (rLst rStr) rNat rNat (fun ws a n => ws.length ≤ 100000 ∧ 1 ≤ n ∧ n ≤ 32 ∧ ∃ m rest, IsMap n m ∧ ws.drop a = wordsOf m ++ rest) (rTup rNat) mapAtM
theorem ok_map_at (T : Tx K mg) : FnOk P w K mg base CX0 3 T.a_map_at T.d_map_at ["words", "at", "many"] (sp_map_at T) := by
  refine T.F_map_at.ok sc_map_at (fun vs H Q E h => SpLen.len h) (fun cdv A outer s H vs Q E hr h => ?_)
  obtain ⟨F, v, w, u, ws, a, n, rfl, e, r1, r2, r3, ⟨hz, n0, n1, m, rest, hm, hd⟩, k⟩ := h
  cases (show w = _ from r2)
  cases (show u = _ from r3)
  rw [mapAt_eq hm hd] at k
  have hs := at_slash hd
  have ha : a < ws.length := (List.getElem?_eq_some_iff.mp hs).1
  have ri : ∀ F (i : Int), rInt F (.int i) i := fun F i => rfl
  have rn : ∀ F (i : Nat), rNat F (.int (i : Int)) i := fun F i => rfl
  refine ⟨_, (by exact (pss_cons (ps_if (pt_cmpR op_ne (pe_call (ok_word_at T) (hr.mono (by decide)) rfl T.g_word_at T.F_word_at.kp T.b_word_at .nil pass0 (pa_cons (pv 0) (pa_cons (pv 1) pa_nil))) pe_str (nomark _)) (pss_one ps_never) pss_nil)
      (pss_cons (ps_set (i := 3) sc_map_at.nd rfl (Or.inl rfl) (pe_lst pa_nil))
      (pss_cons (ps_for PassesOwn.never rfl (pi_range2 rfl T.z_range (pa_cons (pe_op op_add (pv 1) pe_int) (pa_cons (pe_op op_add (pe_op op_add (pv 1) pe_int) (pv 2)) pa_nil))) (pg_name (i := 4) sc_map_at.nd rfl (by first | exact Or.inl rfl | exact Or.inr rfl)) (pss_cons (ps_set (i := 5) sc_map_at.nd rfl (Or.inl rfl) (pe_call (ok_number_of T) (hr.mono (by decide)) rfl T.g_number_of T.F_number_of.kp T.b_number_of .nil pass0 (pa_cons (pe_call (ok_word_at T) (hr.mono (by decide)) rfl T.g_word_at T.F_word_at.kp T.b_word_at .nil pass0 (pa_cons (pv 0) (pa_cons (pv 4) pa_nil))) (pa_cons pe_int (pa_cons (pe_op op_sub (pv 2) pe_int) pa_nil)))))
      (pss_cons (ps_if (pt_cmpR op_isN1 (pv 5) pe_non (nomark _)) (pss_one ps_never) pss_nil)
      (pss_one (ps_expr (kbm K PySem.F.plainAttrs_list PySem.F.slot_list_append PySem.F.type_list_append mt_append (pv 3) (pa_cons (pv 5) pa_nil)))))))
      (pss_one (ps_ret (pe_callTy (r := rTupS K) call_tuple_of (by rfl) T.z_tuple (by decide +kernel) (pa_cons (pv 3) pa_nil)))))))), ?_⟩
  walk_at "n"
  refine x_if (b := false) e (EvT.is (et_test (ev_neS (ev_call2 (ev_var rfl r1) (ev_var rfl (rn _ a)) ha) ev_str)) ?_) (fun z => nomatch z) fun _ F1 H1 g1 => ?_
  · rw [List.getD_eq_getElem?_getD, hs, decide_eq_true (show (some ("/" : Str)).getD Str.empty = ("/" : Str) from rfl)]
    rfl
  walk_at "n"
  refine x_nil g1.fh fun l hl => ?_
  have fl0 : F1 l = none := g1.fh.free hl
  have hl0 : H l = none := Ex.free g1.hx hl
  have G0 : Gr M0 F H F1 (upd H1 l (.lst [])) := g1.trans (.loc g1.fh hl)
  walk_at "n"
  refine x_forR2 (a := a + 1) (b := a + 1 + n) G0.fh (Ev.is (ev_add (ev_var rfl (ri _ (a : Int))) ev_int) (by omega)) (Ev.is (ev_add (ev_add (ev_var rfl (ri _ (a : Int))) ev_int) (ev_var rfl (ri _ (n : Int)))) (by omega)) (by omega) (by omega)
    (fun i σ' F' H' => Gr M0 F H F' H' ∧ F' l = none ∧ H' l = some (.lst ((m.take i).map fun x : Nat => V.int (x : Int))) ∧ ∃ y y2, σ' = [some v, some (.int (a : Int)), some (.int (n : Int)), some (.ref l), y, y2])
    (fun F2 H2 g2 => ⟨G0.trans g2, g2.nn upd_same fl0, g2.hx _ _ upd_same, none, none, rfl⟩) ?_ ?_
  · rintro F2 e2 i σ' F' H' hi e3 e4 ⟨g, fl, hH, y, y2, rfl⟩
    have him : i < m.length := by rw [hm.1]; omega
    obtain ⟨x, hx⟩ : ∃ x, m[i]? = some x := ⟨_, List.getElem?_eq_getElem him⟩
    have hxn := hm.2 x (mem_of_at hx)
    have hat := at_num hd hx
    have hlt : a + 1 + i < ws.length := (List.getElem?_eq_some_iff.mp hat).1
    walk_at "n"
    refine x_set (R := rOpt rNat) (x := some x) e4 (ev_call3 (ev_as_num (n := x) (ev_call2 (x := ws) (y := a + 1 + i) (ev_var rfl (Mn.mono (g.ff) r1)) (ev_var rfl (rn _ (a + 1 + i))) hlt) ?_) ev_int (ev_sub (ev_var rfl (ri _ (n : Int))) ev_int) ⟨by omega, by omega, by omega⟩) fun v5 F5 H5 g5 r5 => ?_
    · rw [List.getD_eq_getElem?_getD, hat]; rfl
    walk_at "n"
    refine x_if (b := false) g5.fh (et_test (ev_isN (ev_var rfl r5))) (fun z => nomatch z) fun _ F6 H6 g6 => ?_
    have r6 : rNat F6 v5 x := Mn.mono g6.ff (show rNat F5 v5 x from r5)
    have g56 := g5.trans g6
    have hH6 := g56.hx _ _ hH
    have fl6 := g56.nn hH fl
    walk_at "n"
    refine x_app (R := rNat) (x := x) g6.fh (ev_var rfl (show rRef _ _ l from rfl)) hH6 (ev_var rfl r6) (by rw [List.length_map, List.length_take, sizeLine_eq]; omega) fun v7 F7 H7 g7 r7 h7 => ?_
    cases (show v7 = _ from r7)
    have fl7 := g7.nn hH6 fl6
    have G7 := (g.trans (g56.trans g7)).set' (o := .lst ((m.take i).map (fun x : Nat => V.int (x : Int)) ++ [.int (x : Int)])) fl7 (.inl hl0)
    refine ⟨F7, e3.trans (g56.ff.trans g7.ff), G7.fh, G7, fl7, ?_, _, _, rfl⟩
    rw [upd_same, List.take_add_one, hx, List.map_append]
    rfl
  · rintro σ' F' H' e1 e2 ⟨g, fl, hH, y, y2, rfl⟩
    rw [show a + 1 + n - (a + 1) = n by omega, List.take_of_length_le (by rw [hm.1]; exact Nat.le_refl _)] at hH
    have gf := g.frz hH (Ex.free g.ff fl) (.inl hl0)
    have pm : ∀ (HH : Hp) (ks : List Nat), Paired (rNat HH) (ks.map fun k : Nat => V.int (k : Int)) ks := fun HH ks => by
      induction ks with
      | nil => exact .nil
      | cons a l ih => exact .cons rfl ih
    walk_at "n"
    exact x_ret gf.fh (ev_tupL (R := rNat) (ev_var rfl ⟨l, _, rfl, upd_same, pm _ m⟩)) fun v' F2 H2 g2 r2 => k v' F2 H2 (gf.trans g2) r2
abbrev sp_read (T : Tx K mg) : Sp := Sp1 rText (fun _ => True) (rTurns T.C_Turns) (fun t => t)
theorem ok_read (T : Tx K mg) : FnOk P w K mg base CX0 6 T.a_read T.d_read ["text"] (sp_read T) := by
  refine T.F_read.ok sc_read (fun vs H Q E h => SpLen.len h) (fun cdv A outer s H vs Q E hr h => ?_)
  obtain ⟨F, v, t, rfl, e, r, -, k⟩ := h
  have t0 := t.h0
  have t1 := t.h1
  have t2 := t.h2
  have t3 := t.h3
  have hmp : ∀ m ∈ t.maps, IsMap t.many m := t.h4
  have rs : rStr F v (textM t.many t.maps) := r
  have hwl := words_len hmp
  have hwle := words_le (by omega) (by omega) hmp
  have ri : ∀ F (i : Int), rInt F (.int i) i := fun F i => rfl
  have rn : ∀ F (i : Nat), rNat F (.int (i : Int)) i := fun F i => rfl
  refine ⟨_, (by exact (pss_cons (ps_if (pt_not (pt_val (pe_callB (r := rIsi K) call_isi (by rfl) T.z_isinstance (by decide +kernel) (pa_cons (pv 0) (pa_cons (pe_bltn (v := .ty "str") (by rfl) T.z_str (by decide +kernel) rfl) pa_nil))))) (pss_one ps_never) pss_nil)
      (pss_cons (ps_set (i := 1) sc_read.nd rfl (Or.inl rfl) (pe_split (pv 0) pe_str))
      (pss_cons (ps_set (i := 2) sc_read.nd rfl (Or.inl rfl) (pe_call (ok_number_of T) (hr.mono (by decide)) rfl T.g_number_of T.F_number_of.kp T.b_number_of .nil pass0 (pa_cons (pe_ix (r := rIxL K) ix_list (pv 1) pe_int (fun _ _ => rfl)) (pa_cons pe_int (pa_cons (pe_glob (v := .int 32) rfl T.c_MOST_PLACES ⟨_, rfl⟩) pa_nil)))))
      (pss_cons (ps_if (pt_cmpR op_isN1 (pv 2) pe_non (nomark _)) (pss_one ps_never) pss_nil)
      (pss_cons (ps_set (i := 3) sc_read.nd rfl (Or.inl rfl) (pe_lst (pa_cons (pe_call (ok_map_at T) (hr.mono (by decide)) rfl T.g_map_at T.F_map_at.kp T.b_map_at .nil pass0 (pa_cons (pv 1) (pa_cons pe_int (pa_cons (pv 2) pa_nil)))) pa_nil)))
      (pss_cons (ps_set (i := 4) sc_read.nd rfl (Or.inl rfl) (pe_op op_add pe_int (pv 2)))
      (pss_cons (ps_while PassesOwn.never (pt_cmpR op_lt (pv 4) (pe_callB (r := rLenS K) call_len_seq (by rfl) T.z_len PySem.boot_len (pa_cons (pv 1) pa_nil)) (nomark _)) (pss_cons (ps_if (pt_cmpR op_eq (pe_callB (r := rLenS K) call_len_seq (by rfl) T.z_len PySem.boot_len (pa_cons (pv 3) pa_nil)) (pe_glob (v := .int 200) rfl T.c_MOST_SIGNS ⟨_, rfl⟩) (nomark _)) (pss_one ps_never) pss_nil)
      (pss_cons (ps_expr (kbm K PySem.F.plainAttrs_list PySem.F.slot_list_append PySem.F.type_list_append mt_append (pv 3) (pa_cons (pe_call (ok_map_at T) (hr.mono (by decide)) rfl T.g_map_at T.F_map_at.kp T.b_map_at .nil pass0 (pa_cons (pv 1) (pa_cons (pv 4) (pa_cons (pv 2) pa_nil)))) pa_nil)))
      (pss_one (ps_aug (i := 4) sc_read.nd rfl (Or.inl rfl) (pe_op op_add pe_int (pv 2)) ip_add)))))
      (pss_one (ps_ret (pe_make T.mk_Turns (ok_Turns_init T) (hr.mono (by decide)) rfl T.g_Turns T.b_Turns_init .nil pass0 (pa_cons (pv 2) (pa_cons (pv 3) pa_nil))))))))))))), ?_⟩
  walk_at "n"
  refine x_if (b := false) e (EvT.is (b := !true) (et_not (et_B (ev_isStr (ev_var rfl rs)))) rfl) (fun z => nomatch z) fun _ F1 H1 g1 => ?_
  walk_at "n"
  refine x_set (R := rLst rStr) (x := wordsM t.many t.maps) g1.fh (Ev.is (ev_split (ev_var rfl (show rStr _ _ _ from rs)) ev_str blank_len (text_len (by omega) (by omega) hmp)) (split_text _ _)) fun v2 F2 H2 g2 r2 => ?_
  walk_at "n"
  refine x_set (R := rOpt rNat) (x := some t.many) g2.fh (ev_call3 (ev_as_num (n := t.many) (ev_ixL (ev_var rfl r2) ev_int (atI_natL (n := 0) rfl)) rfl) ev_int ev_int ⟨by omega, by omega, by omega⟩) fun v3 F3 H3 g3 r3 => ?_
  have r3' : rNat F3 v3 t.many := r3
  cases (show v3 = _ from r3')
  walk_at "n"
  refine x_if (b := false) g3.fh (et_test (ev_isN (ev_var rfl r3))) (fun z => nomatch z) fun _ F4 H4 g4 => ?_
  have r24 := Mn.mono (g3.ff.trans g4.ff) r2
  have hpre : ∀ j x, t.maps[j]? = some x → (wordsM t.many t.maps).length ≤ 100000 ∧ 1 ≤ t.many ∧ t.many ≤ 32 ∧ ∃ m rest, IsMap t.many m ∧ (wordsM t.many t.maps).drop (1 + j * (t.many + 1)) = wordsOf m ++ rest := fun j x hx => ⟨by omega, t0, t1, x, _, hmp x (mem_of_at hx), drop_words hmp hx⟩
  have hres : ∀ j x, t.maps[j]? = some x → mapAtM (wordsM t.many t.maps) (1 + j * (t.many + 1)) t.many = x := fun j x hx => mapAt_eq (hmp x (mem_of_at hx)) (drop_words hmp hx)
  obtain ⟨x0, hx0⟩ : ∃ x, t.maps[0]? = some x := ⟨_, List.getElem?_eq_getElem t2⟩
  have hp0 := hpre 0 x0 hx0
  have hr0 := hres 0 x0 hx0
  rw [show 1 + 0 * (t.many + 1) = 1 by omega] at hp0 hr0
  walk_at "n"
  refine x_lst1 (R := rTup rNat) (x := x0) g4.fh (Ev.is (ev_call3 (y := 1) (ev_var rfl r24) ev_int.toNat (ev_var rfl (rn _ t.many)) hp0) hr0) fun v5 l F5 H5 g5 r5 hl => ?_
  have G14 := g1.trans (g2.trans (g3.trans g4))
  have fl5 : F5 l = none := g5.fh.free hl
  have hl0 : H l = none := Ex.free (G14.trans g5).hx hl
  have G5 : Gr M0 F H F5 (upd H5 l (.lst [v5])) := (G14.trans g5).trans (.loc g5.fh hl)
  walk_at "n"
  refine x_set (R := rInt) (x := ((1 + 1 * (t.many + 1) : Nat) : Int)) G5.fh (Ev.is (ev_add ev_int (ev_var rfl (ri _ (t.many : Int)))) (by omega)) fun v6 F6 H6 g6 r6 => ?_
  cases (show v6 = _ from r6)
  have G6 := G5.trans g6
  have hH6 := g6.hx _ _ (upd_same (H := H5) (a := l) (o := .lst [v5]))
  have fl6 := g6.nn upd_same fl5
  walk_at "n"
  refine x_while G6.fh (fun m σ' F' H' => ∃ j vs, m = t.maps.length - j ∧ 1 ≤ j ∧ j ≤ t.maps.length ∧ Gr M0 F H F' H' ∧ F' l = none ∧ H' l = some (.lst vs) ∧ Paired (rTup rNat F') vs (t.maps.take j) ∧ rLst rStr F' v2 (wordsM t.many t.maps) ∧
      σ' = [some v, some v2, some (.int (t.many : Int)), some (.ref l), some (.int ((1 + j * (t.many + 1) : Nat) : Int))]) (t.maps.length - 1) ?_ (fun m _ _ _ => decide (0 < m)) ?_ ?_ ?_ ?_
  · refine ⟨1, [v5], rfl, Nat.le_refl _, t2, G6, fl6, hH6, ?_, Mn.mono (g5.ff.trans g6.ff) r24, rfl⟩
    rw [List.take_add_one, hx0]
    exact .cons (Mn.mono g6.ff r5) .nil
  · rintro m σ' F' H' e1 e2 ⟨j, vs, rfl, j1, j2, g, fl, hH, pv, rw_, rfl⟩
    refine EvT.is (et_test (ev_lt (ev_var rfl (ri _ ((1 + j * (t.many + 1) : Nat) : Int))) (ev_lenL (ev_var rfl rw_)))) ?_
    rw [hwl]
    by_cases hj : j < t.maps.length
    · have : j * (t.many + 1) < t.maps.length * (t.many + 1) := Nat.mul_lt_mul_of_pos_right hj (by omega)
      rw [decide_eq_true (by omega), decide_eq_true (by omega)]
    · have hj2 : j = t.maps.length := by omega
      subst hj2
      rw [decide_eq_false (by omega), decide_eq_false (by omega)]
  · rintro m σ' F' H' F2' H2' g2' ⟨j, vs, rfl, j1, j2, g, fl, hH, pv, rw_, rfl⟩
    exact ⟨j, vs, rfl, j1, j2, g.trans g2', g2'.nn hH fl, g2'.hx _ _ hH, Paired.up g2'.ff pv, Mn.mono g2'.ff rw_, rfl⟩
  · rintro m σ' F' H' F2' H2' ef g2' hb _ ⟨j, vs, rfl, j1, j2, g, fl, hH, pv, rw_, rfl⟩
    have hj : j < t.maps.length := by have := of_decide_eq_true hb; omega
    obtain ⟨x, hx⟩ : ∃ x, t.maps[j]? = some x := ⟨_, List.getElem?_eq_getElem hj⟩
    have hvl : vs.length = j := by rw [pv.length, List.length_take]; omega
    have hjm : 1 + j * (t.many + 1) ≤ 100000 := by
      have : j * (t.many + 1) ≤ t.maps.length * (t.many + 1) := Nat.mul_le_mul_right _ j2
      omega
    walk_at "n"
    refine x_if (b := false) g.fh (EvT.is (et_test (ev_eqI (ev_lenM (ev_var rfl (show rRef _ _ l from rfl)) hH) ev_int)) (decide_eq_false (by omega))) (fun z => nomatch z) fun _ F7 H7 g7 => ?_
    have hH7 := g7.hx _ _ hH
    have fl7 := g7.nn hH fl
    have rw7 := Mn.mono g7.ff rw_
    walk_at "n"
    refine x_app (R := rTup rNat) (x := x) g7.fh (ev_var rfl (show rRef _ _ l from rfl)) hH7 (Ev.is (ev_call3 (y := 1 + j * (t.many + 1)) (ev_var rfl rw7) (ev_var rfl (rn _ (1 + j * (t.many + 1)))) (ev_var rfl (rn _ t.many)) (hpre j x hx)) (hres j x hx)) (by rw [hvl, sizeLine_eq]; omega) fun v8 F8 H8 g8 r8 h8 => ?_
    have fl8 := g8.nn hH7 fl7
    have G8 := (g.trans (g7.trans g8)).set' (o := .lst (vs ++ [v8])) fl8 (.inl hl0)
    walk_at "n"
    refine x_aug G8.fh rfl (ev_add ev_int (ev_var rfl (ri _ (t.many : Int)))) fun F9 H9 g9 => ?_
    refine ⟨F9, t.maps.length - (j + 1), ?_, g9.fh, by omega, j + 1, vs ++ [v8], rfl, by omega, by omega, G8.trans g9, g9.nn upd_same fl8, g9.hx _ _ upd_same, ?_, Mn.mono (g8.ff.trans g9.ff) rw7, ?_⟩
    · exact ef.trans (g2'.ff.trans (g7.ff.trans (g8.ff.trans g9.ff)))
    · rw [List.take_add_one, hx]
      exact (Paired.up (g7.ff.trans (g8.ff.trans g9.ff)) pv).snoc (Mn.mono g9.ff r8)
    · show [_, _, _, _, some (V.int _)] = _
      have : ((1 + (j + 1) * (t.many + 1) : Nat) : Int) = ((1 + j * (t.many + 1) : Nat) : Int) + (1 + (t.many : Int)) := by
        rw [Nat.succ_mul]; omega
      rw [this]
  · rintro m σ' F' H' F2' H2' ef g2' hb _ ⟨j, vs, rfl, j1, j2, g, fl, hH, pv, rw_, rfl⟩
    have hj : j = t.maps.length := by have := of_decide_eq_false hb; omega
    subst hj
    rw [List.take_length] at pv
    have gf := g.frz hH (Ex.free g.ff fl) (.inl hl0)
    walk_at "n"
    exact x_ret gf.fh (ev_Turns (ev_var rfl (ri _ (t.many : Int))) (ev_var rfl ⟨l, vs, rfl, upd_same, Paired.up (Ex.new fl) pv⟩)) fun v' F2 H2 g2 r2 => k v' F2 H2 (gf.trans g2) r2

abbrev sp__law_source_of (T : Tx K mg) : Sp := fun vs H Q _ => ∃ F i, vs = [.int i] ∧ Ex F H ∧ ∀ a H', Gr M0 F H F H' → H a = none → F a = none → Src H' a 1099511627776 → Q (.ref a) H'
instance {T : Tx K mg} : SpLen (sp__law_source_of T) 1 := ⟨fun ⟨_, _, h, _⟩ => by rw [h]; rfl⟩
theorem ok__law_source_of (T : Tx K mg) : FnOk P w K mg base CX0 1 T.a__law_source_of T.d__law_source_of ["_law_cell"] (sp__law_source_of T) := by
  refine T.F__law_source_of.ok sc__law_source_of (fun vs H Q E h => SpLen.len h) (fun cdv A outer s H vs Q E hr h => ?_)
  obtain ⟨F, i, rfl, e, k⟩ := h
  refine ⟨_, (by exact (pss_one (ps_ret (pe_lst (pa_cons (pe_op op_mul (pv 0) (pe_callTy call_int1 (by rfl) T.z_int (by decide +kernel) (pa_cons (pe_cmpR op_ge (pv 0) (pe_op op_pow pe_int pe_int) (nomark _)) pa_nil))) (pa_cons (pe_op op_mod (pv 0) pe_int) (pa_cons pe_int pa_nil))))))), ?_⟩
  have mk : ∀ j : Int, 0 ≤ j → tRet (fun _ H' Q' => (3 : Nat) ≤ sizeLine ∧ ∀ p, H' p = none → Q' (.ref p) (upd H' p (.lst [.int j, .int (i % 2147483647), .int 0]))) { nx := fun x H' => Q V.non H', rt := Q } (L2.start N__law_source_of [.int i]) H := fun j hj => by
    refine ⟨by decide, fun p hp => k p _ (.loc e hp) hp (e.free hp) ⟨j, i % 2147483647, 0, upd_same, hj, by omega, by omega, by omega, by omega⟩⟩
  by_cases h : (10 : Int) ^ (18 : Int).toNat ≤ i
  · have h0 : (0 : Int) ≤ i * 1 := by
      have : (0 : Int) ≤ (10 : Int) ^ (18 : Int).toNat := by decide
      omega
    have := mk (i * 1) h0
    refine ⟨.int i, rfl, .int i, rfl, 10, 18, rfl, rfl, ⟨by decide, by decide, by decide⟩, i, _, rfl, rfl, .inr ⟨true, by show [V.bl (decide ((10 : Int) ^ (18 : Int).toNat ≤ i))] = _; rw [decide_eq_true h], ?_⟩⟩
    refine ⟨i, 1, rfl, rfl, .inr ⟨by omega, by omega⟩, ?_⟩
    exact ⟨.int i, rfl, i, 2147483647, rfl, rfl, (by show (0 : Int) < 2147483647; decide), this⟩
  · have := mk (i * 0) (by omega)
    refine ⟨.int i, rfl, .int i, rfl, 10, 18, rfl, rfl, ⟨by decide, by decide, by decide⟩, i, _, rfl, rfl, .inr ⟨false, by show [V.bl (decide ((10 : Int) ^ (18 : Int).toNat ≤ i))] = _; rw [decide_eq_false h], ?_⟩⟩
    refine ⟨i, 0, rfl, rfl, .inr ⟨by omega, by omega⟩, ?_⟩
    exact ⟨.int i, rfl, i, 2147483647, rfl, rfl, (by show (0 : Int) < 2147483647; decide), this⟩
abbrev sp__law_next (T : Tx K mg) : Sp := SpS1 1 rNat (fun m => 0 < m ∧ m ≤ 1000000000) rNat (fun m d => d < m)
theorem nat_of_mod {i : Int} {m : Nat} (h : 0 < m) : ∃ d : Nat, i % (m : Int) = (d : Int) ∧ d < m := ⟨(i % (m : Int)).toNat, by have := Int.emod_nonneg i (show (m : Int) ≠ 0 by omega); omega, by have := Int.emod_lt_of_pos i (show (0 : Int) < m by omega); have := Int.emod_nonneg i (show (m : Int) ≠ 0 by omega); omega⟩
theorem prime_at (k : Int) : ∃ p : Int, atI [2147483647, 2147483629, 2147483587, 2147483579, 2147483563, 2147483549, (2147483543 : Int)] (k % 7) = some p ∧ 0 < p ∧ p < 2147483648 := by
  have h0 := Int.emod_nonneg k (show (7 : Int) ≠ 0 by decide)
  have h1 := Int.emod_lt_of_pos k (show (0 : Int) < 7 by decide)
  obtain ⟨j, hj⟩ : ∃ j : Nat, k % 7 = (j : Int) := ⟨(k % 7).toNat, by omega⟩
  rw [hj]
  have : j < 7 := by omega
  match j, this with
  | 0, _ => exact ⟨_, rfl, by decide, by decide⟩
  | 1, _ => exact ⟨_, rfl, by decide, by decide⟩
  | 2, _ => exact ⟨_, rfl, by decide, by decide⟩
  | 3, _ => exact ⟨_, rfl, by decide, by decide⟩
  | 4, _ => exact ⟨_, rfl, by decide, by decide⟩
  | 5, _ => exact ⟨_, rfl, by decide, by decide⟩
  | 6, _ => exact ⟨_, rfl, by decide, by decide⟩
theorem ok__law_next (T : Tx K mg) : FnOk P w K mg base CX0 1 T.a__law_next T.d__law_next ["_law_source", "_law_many"] (sp__law_next T) := by
  refine T.F__law_next.ok sc__law_next (fun vs H Q E h => SpLen.len h) (fun cdv A outer s H vs Q E hr h => ?_)
  obtain ⟨F, a, N, v, m, rfl, e, fa, ⟨n, c, kk, hs, n0, c0, c1, k0, kb⟩, r, ⟨m0, m1⟩, k⟩ := h
  cases (show v = _ from r)
  refine ⟨_, (by exact (pss_cons (ps_if (pt_cmpR op_gt (pe_ix (r := rIxL K) ix_list (pv 0) pe_int (fun _ _ => rfl)) pe_int (nomark _)) (pss_cons (ps_set (i := 2) sc__law_next.nd rfl (Or.inl rfl) (pe_op op_mod (pe_ix (r := rIxL K) ix_list (pv 0) pe_int (fun _ _ => rfl)) (pv 1)))
      (pss_cons (ps_asg (pe_op op_fdiv (pe_ix (r := rIxL K) ix_list (pv 0) pe_int (fun _ _ => rfl)) (pv 1)) (pg_sub (pv 0) pe_int set_list))
      (pss_one (ps_ret (pv 2))))) pss_nil)
      (pss_cons (ps_asg (pe_op op_add (pe_ix (r := rIxL K) ix_list (pv 0) pe_int (fun _ _ => rfl)) pe_int) (pg_sub (pv 0) pe_int set_list))
      (pss_cons (ps_set (i := 3) sc__law_next.nd rfl (Or.inl rfl) (pe_ix (r := rIxL K) ix_list (pe_lst (pa_cons pe_int (pa_cons pe_int (pa_cons pe_int (pa_cons pe_int (pa_cons pe_int (pa_cons pe_int (pa_cons pe_int pa_nil)))))))) (pe_op op_mod (pe_ix (r := rIxL K) ix_list (pv 0) pe_int (fun _ _ => rfl)) pe_int) (fun _ _ => rfl)))
      (pss_cons (ps_set (i := 4) sc__law_next.nd rfl (Or.inl rfl) (pe_op op_mod (pe_op op_pow (pe_op op_add (pe_op op_add (pe_ix (r := rIxL K) ix_list (pv 0) pe_int (fun _ _ => rfl)) (pe_op op_mul pe_int (pe_ix (r := rIxL K) ix_list (pv 0) pe_int (fun _ _ => rfl)))) pe_int) pe_int) (pv 3)))
      (pss_cons (ps_set (i := 4) sc__law_next.nd rfl (Or.inl rfl) (pe_op op_mod (pe_op op_mul (pe_op op_add (pv 4) (pe_ix (r := rIxL K) ix_list (pv 0) pe_int (fun _ _ => rfl))) (pe_op op_add (pe_op op_fdiv (pv 4) pe_int) pe_int)) (pv 3)))
      (pss_one (ps_ret (pe_op op_mod (pe_op op_fdiv (pv 4) pe_int) (pv 1)))))))))), ?_⟩
  have va : ∀ F, rRef F (.ref a) a := fun F => rfl
  have ri : ∀ F (i : Int), rInt F (.int i) i := fun F i => rfl
  walk_at "n"
  refine x_if e (et_test (ev_gt (ev_ixM (ev_var rfl (va _)) ev_int hs rfl (ri _ n)) ev_int)) (fun hb F1 H1 g1 => ?_) (fun hb F1 H1 g1 => ?_)
  · have hs1 := g1.hx _ _ hs
    have fa1 := g1.nn hs fa
    obtain ⟨d, hd, hdm⟩ := nat_of_mod (i := n) m0
    walk_at "n"
    refine x_set g1.fh (ev_mod (ev_ixM (ev_var rfl (va _)) ev_int hs1 rfl (ri _ n)) (ev_var rfl (ri _ m)) (by omega)) fun v2 F2 H2 g2 r2 => ?_
    cases (show v2 = _ from r2)
    walk_at "n"
    refine x_setI (n := 0) g2.fh (ev_fdiv (ev_ixM (ev_var rfl (va _)) ev_int (g2.hx _ _ hs1) rfl (ri _ n)) (ev_var rfl (ri _ m)) ⟨by omega, by omega⟩) (ev_var rfl (va _)) ev_int (g2.hx _ _ hs1) (by show 0 < 3; decide) fun v3 F3 H3 g3 r3 hl3 => ?_
    cases (show v3 = _ from r3)
    have fa3 := g3.nn (g2.hx _ _ hs1) (g2.nn hs1 fa1)
    have g4 : Gr (El.M1 a) F H F3 _ := ((g1.trans (g2.trans g3)).up).set' (o := .lst [.int (n / (m : Int)), .int c, .int kk]) fa3 (.inr rfl)
    refine x_ret g4.fh (ev_var rfl (ri _ (n % (m : Int)))) fun v5 F5 H5 g5 r5 => ?_
    refine k v5 d F5 H5 (g4.trans g5.up) (g5.nn upd_same fa3) ?_ hdm (by rw [hd] at r5; exact r5)
    exact ⟨n / m, c, kk, g5.hx _ _ upd_same, Int.ediv_nonneg n0 (by omega), c0, c1, k0, by omega⟩
  · have hs1 := g1.hx _ _ hs
    have fa1 := g1.nn hs fa
    walk_at "n"
    refine x_setI (n := 2) g1.fh (ev_add (ev_ixM (ev_var rfl (va _)) ev_int hs1 rfl (ri _ kk)) ev_int) (ev_var rfl (va _)) ev_int hs1 (by show 2 < 3; decide) fun v3 F3 H3 g3 r3 hl3 => ?_
    cases (show v3 = _ from r3)
    have fa3 := g3.nn hs1 fa1
    have g4 : Gr (El.M1 a) F H F3 _ := ((g1.trans g3).up).set' (o := .lst [.int n, .int c, .int (kk + 1)]) fa3 (.inr rfl)
    obtain ⟨p, hp, p0, p1⟩ := prime_at (kk + 1)
    walk_at "n"
    refine x_set (R := rInt) (x := p) g4.fh (ev_ixL (ev_lst (R := rInt) (el_cons ev_int (el_cons ev_int (el_cons ev_int (el_cons ev_int (el_cons ev_int (el_cons ev_int (el_cons ev_int el_nil))))))) (by show 7 ≤ sizeLine; decide)) (ev_mod (ev_ixM (ev_var rfl (va _)) ev_int upd_same rfl (ri _ (kk + 1))) ev_int (by decide)) hp) fun v5 F5 H5 g5 r5 => ?_
    cases (show v5 = _ from r5)
    have hs5 := g5.hx _ _ (upd_same (H := H3) (a := a) (o := .lst [.int n, .int c, .int (kk + 1)]))
    walk_at "n"
    refine x_set g5.fh (ev_mod (ev_pow (ev_add (ev_add (ev_ixM (ev_var rfl (va _)) ev_int hs5 rfl (ri _ c)) (ev_mul ev_int (ev_ixM (ev_var rfl (va _)) ev_int hs5 rfl (ri _ (kk + 1))) (.inl ⟨by decide, by decide⟩))) ev_int) ev_int ⟨by decide, by decide, by omega⟩) (ev_var rfl (ri _ p)) p0) fun v6 F6 H6 g6 r6 => ?_
    generalize hx : (c + 7919 * (kk + 1) + 1) ^ (5 : Int).toNat % p = x at r6
    have x0 : 0 ≤ x := by rw [← hx]; exact Int.emod_nonneg _ (by omega)
    have x1 : x < p := by rw [← hx]; exact Int.emod_lt_of_pos _ p0
    cases (show v6 = _ from r6)
    have hs6 := g6.hx _ _ hs5
    walk_at "n"
    refine x_set g6.fh (ev_mod (ev_mul (ev_add (ev_var rfl (ri _ x)) (ev_ixM (ev_var rfl (va _)) ev_int hs6 rfl (ri _ (kk + 1)))) (ev_add (ev_fdiv (ev_var rfl (ri _ x)) ev_int ⟨by decide, by decide⟩) ev_int) (.inr ⟨by omega, by omega⟩)) (ev_var rfl (ri _ p)) p0) fun v7 F7 H7 g7 r7 => ?_
    generalize hy : (x + (kk + 1)) * (x / 1009 + 69621) % p = y at r7
    cases (show v7 = _ from r7)
    obtain ⟨d, hd, hdm⟩ := nat_of_mod (i := y / 7) m0
    walk_at "n"
    refine x_ret g7.fh (ev_mod (ev_fdiv (ev_var rfl (ri _ y)) ev_int ⟨by decide, by decide⟩) (ev_var rfl (ri _ m)) (by omega)) fun v8 F8 H8 g8 r8 => ?_
    have G := g5.trans (g6.trans (g7.trans g8))
    refine k v8 d F8 H8 (g4.trans G.up) (G.nn upd_same fa3) ?_ hdm (by rw [hd] at r8; exact r8)
    exact ⟨n, c, kk + 1, G.hx _ _ upd_same, n0, c0, c1, by omega, by omega⟩

abbrev sp__law_one (T : Tx K mg) : Sp := SpS1 1 (rLst rNat) (fun xs => 1 ≤ xs.length ∧ xs.length ≤ 100000) rNat (fun xs x => x ∈ xs)
theorem atI_lt {α : Type} {xs : List α} {d : Nat} (h : d < xs.length) : ∃ x, atI xs (d : Int) = some x := ⟨xs[d], atI_natL (List.getElem?_eq_getElem h)⟩
theorem atI_mem {α : Type} {xs : List α} {i : Int} {x : α} (h : atI xs i = some x) : x ∈ xs := by
  unfold atI at h
  cases q : ixN xs.length i with
  | none => rw [q] at h; cases h
  | some j => rw [q] at h; exact List.mem_of_getElem? h
theorem ok__law_one (T : Tx K mg) : FnOk P w K mg base CX0 2 T.a__law_one T.d__law_one ["_law_source", "_law_some"] (sp__law_one T) := by
  refine T.F__law_one.ok sc__law_one (fun vs H Q E h => SpLen.len h) (fun cdv A outer s H vs Q E hr h => ?_)
  obtain ⟨F, a, N, v, xs, rfl, e, fa, s, r, ⟨p1, p2⟩, k⟩ := h
  refine ⟨_, (by exact (pss_one (ps_ret (pe_ix (r := rIxL K) ix_list (pv 1) (pe_call (ok__law_next T) (hr.mono (by decide)) rfl T.g__law_next T.F__law_next.kp T.b__law_next .nil pass0 (pa_cons (pv 0) (pa_cons (pe_callB (r := rLenS K) call_len_seq (by rfl) T.z_len PySem.boot_len (pa_cons (pv 1) pa_nil)) pa_nil))) (fun _ _ => rfl))))), ?_⟩
  refine x_retS (es_ixL (xs := xs) (P2 := fun i => ∃ d : Nat, i = (d : Int) ∧ d < xs.length) (fun F1 H1 g fa1 => ev_var rfl (Mn.mono g.ff r)) (EvS.mono (EvS.nat (es_call1 (P1 := fun n => n = xs.length) rfl (es_pure (R := rNat) (x := xs.length) fun F1 H1 g fa1 => ev_lenL (ev_var rfl (Mn.mono g.ff r))) ?_)) ?_ (Nat.le_refl _)) ?_) e fa s (by omega) fun v' x F' H' g fa' s' p r' => ?_
  · rintro x rfl
    exact ⟨by omega, by omega⟩
  · rintro x ⟨n, rfl, m, rfl, h⟩
    exact ⟨n, rfl, h⟩
  · rintro i ⟨d, rfl, h⟩
    exact atI_lt h
  · obtain ⟨i, _, h⟩ := p
    exact k v' x F' H' g fa' (s'.le (by omega)) (atI_mem h) r'

theorem ev_lenQ {σ : St} {F H : Hp} {ta : TE} {ns : List Int} (ha : Ev (rQ K) ta σ F H ns) : Ev rInt (tCB (rLenS K) (tCons ta tNil)) σ F H (ns.length : Int) := fun F1 H1 g1 Q q =>
  ha F1 H1 g1 _ fun v F2 H2 g2 ⟨a, e, h⟩ => ⟨a, _, by rw [e], .inl (Ex.seq g2.fh h), q _ F2 H2 g2 (by rw [List.length_map]; rfl)⟩
theorem ev_ixQ {σ : St} {F H : Hp} {ta tb : TE} {ns : List Int} {i x : Int} (ha : Ev (rQ K) ta σ F H ns) (hb : Ev rInt tb σ F H i) (h : atI ns i = some x) : Ev rInt (tOp (rIxL K) ta tb) σ F H x := fun F1 H1 g1 Q q =>
  ha F1 H1 g1 _ fun v F2 H2 g2 ⟨a, e, hq⟩ => hb F2 H2 (g1.trans g2) _ fun w F3 H3 g3 r2 => by
    obtain ⟨y, hy, ry⟩ := atI_paired (paired_ints (H := F3) ns) h
    exact ⟨a, _, i, y, e, r2, Ex.seq g3.fh (Ex.seq g3.ff hq), hy, q y F3 H3 (g2.trans g3) ry⟩
abbrev sp__law_cell_at (T : Tx K mg) : Sp := Sp2 (rQ K) rNat (fun _ _ => True) rInt (fun ns i => ns.getD i 0)
theorem ok__law_cell_at (T : Tx K mg) : FnOk P w K mg base CX0 1 T.a__law_cell_at T.d__law_cell_at ["_law_script", "_law_k"] (sp__law_cell_at T) := by
  refine T.F__law_cell_at.ok sc__law_cell_at (fun vs H Q E h => SpLen.len h) (fun cdv A outer s H vs Q E hr h => ?_)
  obtain ⟨F, v, w, ns, i, rfl, e, r1, r2, -, k⟩ := h
  cases (show w = _ from r2)
  have ri : ∀ F (i : Int), rInt F (.int i) i := fun F i => rfl
  refine ⟨_, (by exact (pss_cons (ps_if (pt_cmpR op_lt (pv 1) (pe_callB (r := rLenS K) call_len_seq (by rfl) T.z_len PySem.boot_len (pa_cons (pv 0) pa_nil)) (nomark _)) (pss_one (ps_ret (pe_ix (r := rIxL K) ix_list (pv 0) (pv 1) (fun _ _ => rfl)))) pss_nil)
      (pss_one (ps_ret pe_int)))), ?_⟩
  walk_at "n"
  refine x_if e (et_test (ev_lt (ev_var rfl (ri _ (i : Int))) (ev_lenQ (ev_var rfl r1)))) (fun hb F1 H1 g1 => ?_) (fun hb F1 H1 g1 => ?_)
  · have hl : i < ns.length := by have := of_decide_eq_true hb; omega
    exact x_ret g1.fh (ev_ixQ (ev_var rfl (Mn.mono g1.ff r1)) (ev_var rfl (ri _ (i : Int))) (atI_natL (getD_at hl))) fun v F2 H2 g2 r => k v F2 H2 (g1.trans g2) r
  · have hl : ns.getD i 0 = 0 := by
      have := of_decide_eq_false hb
      rw [List.getD_eq_getElem?_getD, List.getElem?_eq_none (by omega)]
      rfl
    walk_at "n"
    exact x_ret g1.fh ev_int fun v F2 H2 g2 r => k v F2 H2 (g1.trans g2) (by show rInt F2 v (ns.getD i 0); rw [hl]; exact r)
theorem isMap_of_all {n : Nat} {l : List Nat} (h : l.length = n ∧ ∀ (i x : Nat), l[i]? = some x → x < n) : IsMap n l := ⟨h.1, fun x hx => by
  obtain ⟨i, hi⟩ := List.mem_iff_getElem?.mp hx
  exact h.2 i x hi⟩
abbrev sp__law_turns (T : Tx K mg) : Sp := SpS1 200 rNat (fun n => 1 ≤ n ∧ n ≤ 32) (rPr rNat (rLst (rTup rNat))) (fun n p => 1 ≤ p.1 ∧ p.1 ≤ n ∧ 1 ≤ p.2.length ∧ p.2.length ≤ 4 ∧ ∀ m ∈ p.2, IsMap p.1 m)
theorem ok__law_turns (T : Tx K mg) : FnOk P w K mg base CX0 3 T.a__law_turns T.d__law_turns ["_law_source", "_law_most"] (sp__law_turns T) := by
  refine T.F__law_turns.ok sc__law_turns (fun vs H Q E h => SpLen.len h) (fun cdv A outer s H vs Q E hr h => ?_)
  obtain ⟨F, a, N, v, n, rfl, e, fa, s, r, ⟨n0, n1⟩, k⟩ := h
  cases (show v = _ from r)
  refine ⟨_, (by exact (pss_cons (ps_set (i := 2) sc__law_turns.nd rfl (Or.inr rfl) (pe_op op_add pe_int (pe_call (ok__law_next T) (hr.mono (by decide)) rfl T.g__law_next T.F__law_next.kp T.b__law_next .nil pass0 (pa_cons (pv 0) (pa_cons (pv 1) pa_nil)))))
      (pss_cons (ps_set (i := 3) sc__law_turns.nd rfl (Or.inl rfl) (pe_lst pa_nil))
      (pss_cons (ps_for PassesOwn.never rfl (pi_range1 rfl T.z_range (pa_cons (pe_call (ok__law_one T) (hr.mono (by decide)) rfl T.g__law_one T.F__law_one.kp T.b__law_one .nil pass0 (pa_cons (pv 0) (pa_cons (pe_lst (pa_cons pe_int (pa_cons pe_int (pa_cons pe_int (pa_cons pe_int (pa_cons pe_int pa_nil)))))) pa_nil))) pa_nil)) (pg_name (i := 4) sc__law_turns.nd rfl (by first | exact Or.inl rfl | exact Or.inr rfl)) (pss_cons (ps_set (i := 5) sc__law_turns.nd rfl (Or.inl rfl) (pe_call (ok__law_next T) (hr.mono (by decide)) rfl T.g__law_next T.F__law_next.kp T.b__law_next .nil pass0 (pa_cons (pv 0) (pa_cons pe_int pa_nil))))
      (pss_cons (ps_set (i := 6) sc__law_turns.nd rfl (Or.inr rfl) (pe_call (ok__law_next T) (hr.mono (by decide)) rfl T.g__law_next T.F__law_next.kp T.b__law_next .nil pass0 (pa_cons (pv 0) (pa_cons (pv 2) pa_nil))))
      (pss_one (ps_if (pt_cmpR op_eq (pv 5) pe_int (nomark _)) (pss_one (ps_expr (kbm K PySem.F.plainAttrs_list PySem.F.slot_list_append PySem.F.type_list_append mt_append (pv 3) (pa_cons (pe_callTy (r := rTupS K) call_tuple_of (by rfl) T.z_tuple (by decide +kernel) (pa_cons (pe_lc (own := [("_law_place", 7)]) (g := gName 7) (tt := tYes) rfl sc__law_turns.nd (pi_range1 rfl T.z_range (pa_cons (pv 2) pa_nil)) (blkOk_by (own := [("_law_place", 7)]) (N := N__law_turns) (sc := defScope s__law_turns) (by decide +kernel)) (fun _ _ _ _ _ => (pg_name (i := 7) sc__law_turns.nd rfl (by first | exact Or.inl rfl | exact Or.inr rfl))) (fun _ _ _ _ _ => pts_nil) (fun _ _ _ _ _ => (pe_op op_mod (pe_op op_add (pv 7) (pv 6)) (pv 2)))) pa_nil)) pa_nil)))) (pss_one (ps_if (pt_cmpR op_eq (pv 5) pe_int (nomark _)) (pss_one (ps_expr (kbm K PySem.F.plainAttrs_list PySem.F.slot_list_append PySem.F.type_list_append mt_append (pv 3) (pa_cons (pe_callTy (r := rTupS K) call_tuple_of (by rfl) T.z_tuple (by decide +kernel) (pa_cons (pe_lc (own := [("_law_place", 7)]) (g := gName 7) (tt := tYes) rfl sc__law_turns.nd (pi_range1 rfl T.z_range (pa_cons (pv 2) pa_nil)) (blkOk_by (own := [("_law_place", 7)]) (N := N__law_turns) (sc := defScope s__law_turns) (by decide +kernel)) (fun _ _ _ _ _ => (pg_name (i := 7) sc__law_turns.nd rfl (by first | exact Or.inl rfl | exact Or.inr rfl))) (fun _ _ _ _ _ => pts_nil) (fun _ _ _ _ _ => (pe_callB (call_min2 rfl) (by rfl) T.z_min (by decide +kernel) (pa_cons (pv 7) (pa_cons (pv 6) pa_nil))))) pa_nil)) pa_nil)))) (pss_one (ps_expr (kbm K PySem.F.plainAttrs_list PySem.F.slot_list_append PySem.F.type_list_append mt_append (pv 3) (pa_cons (pe_callTy (r := rTupS K) call_tuple_of (by rfl) T.z_tuple (by decide +kernel) (pa_cons (pe_lc (own := [("_law_place", 7)]) (g := gName 7) (tt := tYes) rfl sc__law_turns.nd (pi_range1 rfl T.z_range (pa_cons (pv 2) pa_nil)) (blkOk_by (own := [("_law_place", 7)]) (N := N__law_turns) (sc := defScope s__law_turns) (by decide +kernel)) (fun _ _ _ _ _ => (pg_name (i := 7) sc__law_turns.nd rfl (by first | exact Or.inl rfl | exact Or.inr rfl))) (fun _ _ _ _ _ => pts_nil) (fun _ _ _ _ _ => (pe_call (ok__law_next T) (hr.mono (by decide)) rfl T.g__law_next T.F__law_next.kp T.b__law_next .nil pass0 (pa_cons (pv 0) (pa_cons (pv 2) pa_nil))))) pa_nil)) pa_nil)))))))))))
      (pss_one (ps_ret (pe_tup (pa_cons (pv 2) (pa_cons (pv 3) pa_nil))))))))), ?_⟩
  have ri : ∀ F (i : Int), rInt F (.int i) i := fun F i => rfl
  have rn : ∀ F (i : Nat), rNat F (.int (i : Int)) i := fun F i => rfl
  walk_at "n"
  refine x_setS (es_add es_int (EvS.nat (es_callP rfl (fun F _ _ _ => ev_var rfl (rn F n)) ⟨by omega, by omega⟩))) e fa s (by omega) fun v1 w1 F1 H1 g1 fa1 s1 p1 r1 => ?_
  obtain ⟨_, _, rfl, ⟨d, rfl, hd⟩, rfl⟩ := p1
  obtain ⟨m, hm⟩ : ∃ m : Nat, (1 + (d : Int)) = (m : Int) := ⟨1 + d, by omega⟩
  rw [hm] at r1
  cases (show v1 = _ from r1)
  walk_at "n"
  refine x_nil g1.fh fun l hl => ?_
  have hne : l ≠ a := fun z => by subst z; exact s1.hn hl
  have hl0 : H l = none := by
    cases q : H l with
    | none => rfl
    | some o => exact absurd hl (g1.dm l (by rw [q]; exact fun z => nomatch z))
  have fl1 : F1 l = none := g1.fh.free hl
  have g2 : Gr (El.M1 a) F H F1 (upd H1 l (.lst [])) := g1.trans (.loc g1.fh hl)
  have s2 := s1.ex (H' := upd H1 l (.lst [])) (upd_ne hne.symm)
  walk_at "n"
  refine x_forRS (EvS.nat (es_callP (x := [1, 2, 2, 3, 4]) rfl (fun F H _ _ => ev_lst (R := rNat) (el_cons ev_lit (el_cons ev_lit (el_cons ev_lit (el_cons ev_lit (el_cons ev_lit el_nil))))) (by show 5 ≤ sizeLine; decide)) ⟨by show 1 ≤ 5; omega, by show 5 ≤ 100000; omega⟩)) g2.fh fa1 s2 (by omega) (fun i hi => ?_) fun q hq F3 H3 g3 fa3 s3 => ?_
  · obtain ⟨z, rfl, hz⟩ := hi
    simp at hz
    omega
  have hq4 : 1 ≤ q ∧ q ≤ 4 := by
    obtain ⟨z, hz, hz2⟩ := hq
    simp at hz2
    omega
  refine ⟨fun i σ' F' H' => Gr (El.M1 a) F H F' H' ∧ F' a = none ∧ Src H' a (N + 160 - i * 34) ∧ F' l = none ∧ ∃ vs ms, H' l = some (.lst vs) ∧ Paired (rTup rNat F') vs ms ∧ ms.length = i ∧ (∀ x ∈ ms, IsMap m x) ∧ ∃ y1 y2 y3 y4, σ' = [some (.ref a), some (.int (n : Int)), some (.int (m : Int)), some (.ref l), y1, y2, y3, y4],
    ⟨g2.trans g3, fa3, s3.le (by omega), g3.nw l hne (by rw [upd_same]; exact fun z => nomatch z) fl1, [], [], g3.hh _ _ hne upd_same, .nil, rfl, (fun _ h => nomatch h), _, _, _, _, rfl⟩, ?_, ?_⟩
  · rintro i σ' F' H' hi e1 e2 ⟨g, fa', s', fl, vs, ms, hH, pv, hml, hmm, y1, y2, y3, y4, rfl⟩
    have nnl : ∀ {HH : Hp} {o : HO}, HH l = some o → HH l ≠ none := fun h => by rw [h]; exact fun z => nomatch z
    have fin : ∀ (v8 : V) (x : List Nat) F8 H8 N8, Gr (El.M1 a) F' H' F8 H8 → F8 a = none → Src H8 a N8 → N + 160 - (i + 1) * 34 ≤ N8 → rTup rNat F8 v8 x → IsMap m x → ∀ z1 z2 z3 z4, ∃ F2, Ex F3 F2 ∧ Ex F2 (upd H8 l (.lst (vs ++ [v8]))) ∧
        (Gr (El.M1 a) F H F2 (upd H8 l (.lst (vs ++ [v8]))) ∧ F2 a = none ∧ Src (upd H8 l (.lst (vs ++ [v8]))) a (N + 160 - (i + 1) * 34) ∧ F2 l = none ∧ ∃ vs' ms', (upd H8 l (.lst (vs ++ [v8]))) l = some (.lst vs') ∧ Paired (rTup rNat F2) vs' ms' ∧ ms'.length = i + 1 ∧ (∀ x ∈ ms', IsMap m x) ∧ ∃ y1 y2 y3 y4, ([some (V.ref a), some (V.int (n : Int)), some (V.int (m : Int)), some (V.ref l), z1, z2, z3, z4] : St) = [some (V.ref a), some (V.int (n : Int)), some (V.int (m : Int)), some (V.ref l), y1, y2, y3, y4]) :=
      fun v8 x F8 H8 N8 g8 fa8 s8 hN r8 hx z1 z2 z3 z4 => by
        have fl8 := g8.nw l hne (nnl hH) fl
        have G8 := (g.trans g8).set' (o := .lst (vs ++ [v8])) fl8 (.inl hl0)
        exact ⟨F8, e1.trans g8.ff, G8.fh, G8, fa8, (s8.le hN).ex (upd_ne hne.symm), fl8, _, ms ++ [x], upd_same, (Paired.up g8.ff pv).snoc r8, by rw [List.length_append, hml]; rfl, fun y hy => by
          rcases List.mem_append.mp hy with h | h
          · exact hmm y h
          · rw [List.mem_singleton.mp h]; exact hx, _, _, _, _, rfl⟩
    have hsz : vs.length < sizeLine := by rw [pv.length, hml, sizeLine_eq]; omega
    have hN : N + 160 - i * 34 = N + 160 - (i + 1) * 34 + 34 := by omega
    walk_at "n"
    refine x_setS (es_callP rfl (fun _ _ _ _ => ev_lit (n := 4)) ⟨by omega, by omega⟩) e2 fa' s' (by omega) fun v4 w4 F4 H4 g4 fa4 s4 p4 r4 => ?_
    cases (show v4 = _ from r4)
    walk_at "n"
    refine x_setS (es_callP rfl (fun F _ _ _ => ev_var rfl (rn F m)) ⟨by omega, by omega⟩) g4.fh fa4 s4 (by omega) fun v5 w5 F5 H5 g5 fa5 s5 p5 r5 => ?_
    cases (show v5 = _ from r5)
    have g45 := g4.trans g5
    have hH5 := g45.hh _ _ hne hH
    walk_at "n"
    refine x_if g5.fh (et_test (ev_eqI (ev_var rfl (ri _ (w4 : Int))) ev_int)) (fun hb F6 H6 g6 => ?_) (fun hb F6 H6 g6 => ?_)
    · have hH6 := g6.hx _ _ hH5
      refine x_app (R := rTup rNat) g6.fh (ev_var rfl (show rRef _ _ l from rfl)) hH6 (ev_tupL (ev_lcRm (fun p => (p + w5) % m) (ev_var rfl (ri _ (m : Int))) (by omega) (fun v => rfl) fun i F H hi g => Ev.toNat (Ev.is (ev_mod (ev_add (ev_var rfl (ri _ (i : Int))) (ev_var rfl (ri _ (w5 : Int)))) (ev_var rfl (ri _ (m : Int))) (by omega)) (by rw [Int.natCast_emod, Int.natCast_add])))) hsz fun v8 F8 H8 g8 r8 h8 => ?_
      obtain ⟨o5, ho5⟩ := s5.someO
      have s8 := s5.gr (g6.trans g8)
      have fa8 := (g6.trans g8).nn ho5 fa5
      refine fin v8 _ F8 H8 _ (g45.trans (g6.trans g8).up) fa8 s8 (by omega) r8 ⟨by rw [List.length_map, List.length_range], fun x hx => ?_⟩ _ _ _ _
      obtain ⟨p, hp, rfl⟩ := List.mem_map.mp hx
      exact Nat.mod_lt _ (by omega)
    walk_at "n"
    refine x_if g6.fh (et_test (ev_eqI (ev_var rfl (ri _ (w4 : Int))) ev_int)) (fun hb F7 H7 g7 => ?_) (fun hb F7 H7 g7 => ?_)
    · have g67 := g6.trans g7
      have hH7 := g67.hx _ _ hH5
      refine x_app (R := rTup rNat) g7.fh (ev_var rfl (show rRef _ _ l from rfl)) hH7 (ev_tupL (ev_lcRm (fun p => if w5 < p then w5 else p) (ev_var rfl (ri _ (m : Int))) (by omega) (fun v => rfl) fun i F H hi g => Ev.toNat (Ev.is (ev_min2 (ev_var rfl (ri _ (i : Int))) (ev_var rfl (ri _ (w5 : Int)))) ?_))) hsz fun v8 F8 H8 g8 r8 h8 => ?_
      · by_cases h : w5 < i
        · rw [if_pos h, if_pos (by omega)]
        · rw [if_neg h, if_neg (by omega)]
      obtain ⟨o5, ho5⟩ := s5.someO
      have s8 := s5.gr (g67.trans g8)
      have fa8 := (g67.trans g8).nn ho5 fa5
      refine fin v8 _ F8 H8 _ (g45.trans (g67.trans g8).up) fa8 s8 (by omega) r8 ⟨by rw [List.length_map, List.length_range], fun x hx => ?_⟩ _ _ _ _
      obtain ⟨p, hp, rfl⟩ := List.mem_map.mp hx
      have := List.mem_range.mp hp
      by_cases h : w5 < p
      · rw [if_pos h]; exact p5
      · rw [if_neg h]; exact this
    · have g67 := g6.trans g7
      have hH7 := g67.hx _ _ hH5
      obtain ⟨o5, ho5⟩ := s5.someO
      walk_at "n"
      refine x_appS (R := rTup rNat) (c := 32) hne (es_tupL (es_lcRP (n := m) (B := 32) (c2 := 1) (P2 := fun _ x => x < m) (fun F H _ _ => ev_var rfl (ri _ (m : Int))) (by omega) (by omega) (fun v => rfl) fun i hi F H g _ => es_callP rfl (fun F _ _ _ => ev_var rfl (rn F m)) ⟨by omega, by omega⟩)) g7.fh (g67.nn ho5 fa5) (s5.gr g67) (by omega) rfl hH7 hsz fun v8 x F8 H8 g8 fa8 s8 p8 r8 h8 => ?_
      exact fin v8 x F8 H8 _ (g45.trans (g67.up.trans g8)) fa8 s8 (by omega) r8 (isMap_of_all p8) _ _ _ _
  · rintro σ' F' H' e1 e2 ⟨g, fa', s', fl, vs, ms, hH, pv, hml, hmm, y1, y2, y3, y4, rfl⟩
    have gf := g.frz hH (Ex.free g.ff fl) (.inl hl0)
    have fa'' : upd F' l (.lst vs) a = none := by rw [upd_ne hne.symm]; exact fa'
    walk_at "n"
    refine x_retS (R := rPr rNat (rLst (rTup rNat))) (es_pr (P1 := fun x => x = m) (P2 := fun x => x = ms) (es_var rfl (rn _ m)) (es_var rfl ⟨l, vs, rfl, upd_same, Paired.up (Ex.new fl) pv⟩)) gf.fh fa'' s' (by omega) fun v2 w2 F2 H2 g2 fa2 s2 p2 r2 => ?_
    obtain ⟨w21, w22⟩ := w2
    obtain ⟨h1, h2⟩ := p2
    have h1 : w21 = m := h1
    have h2 : w22 = ms := h2
    subst h1; subst h2
    exact k v2 _ F2 H2 (gf.trans g2) fa2 (s2.le (by omega)) ⟨by show 1 ≤ w21; omega, by show w21 ≤ n; omega, by show 1 ≤ w22.length; omega, by show w22.length ≤ 4; omega, hmm⟩ r2

abbrev sp__law_text (T : Tx K mg) : Sp := Sp2 rNat (rLst (rTup rNat)) (fun n ms => n ≤ 32 ∧ ms.length ≤ 200 ∧ ∀ m ∈ ms, IsMap n m) rStr textM
theorem ok__law_text (T : Tx K mg) : FnOk P w K mg base CX0 1 T.a__law_text T.d__law_text ["_law_many", "_law_maps"] (sp__law_text T) := by
  refine T.F__law_text.ok sc__law_text (fun vs H Q E h => SpLen.len h) (fun cdv A outer s H vs Q E hr h => ?_)
  obtain ⟨F, v, w, n, ms, rfl, e, r1, r2, ⟨n1, l1, hmp⟩, k⟩ := h
  cases (show v = _ from r1)
  have ri : ∀ F (i : Int), rInt F (.int i) i := fun F i => rfl
  refine ⟨_, (by exact (pss_cons (ps_set (i := 2) sc__law_text.nd rfl (Or.inl rfl) (pe_lst (pa_cons (pe_callTy call_str_int (by rfl) T.z_str (by decide +kernel) (pa_cons (pv 0) pa_nil)) pa_nil)))
      (pss_cons (ps_for PassesOwn.never rfl (klist K (pv 1)) (pg_name (i := 3) sc__law_text.nd rfl (by first | exact Or.inl rfl | exact Or.inr rfl)) (pss_one (ps_set (i := 2) sc__law_text.nd rfl (Or.inl rfl) (pe_op op_cat (pe_op op_cat (pv 2) (pe_lst (pa_cons pe_str pa_nil))) (pe_lc (own := [("_law_place", 4)]) (g := gName 4) (tt := tYes) rfl sc__law_text.nd (ktup K (pv 3)) (blkOk_by (own := [("_law_place", 4)]) (N := N__law_text) (sc := defScope s__law_text) (by decide +kernel)) (fun _ _ _ _ _ => (pg_name (i := 4) sc__law_text.nd rfl (by first | exact Or.inl rfl | exact Or.inr rfl))) (fun _ _ _ _ _ => pts_nil) (fun _ _ _ _ _ => (pe_callTy call_str_int (by rfl) T.z_str (by decide +kernel) (pa_cons (pv 4) pa_nil))))))))
      (pss_one (ps_ret (pe_join pe_str (pv 2))))))), ?_⟩
  walk_at "n"
  refine x_set (R := rLst rStr) (x := wordsM n []) e (ev_lst (R := rStr) (el_cons (ev_strN (ev_var rfl (ri _ (n : Int))) (by omega)).str el_nil) (by show 1 ≤ sizeLine; decide)) fun v2 F1 H1 g1 r3 => ?_
  walk_at "n"
  refine x_forL g1.fh (ev_var rfl (Mn.mono g1.ff r2))
    (fun i σ' F' H' => Gr M0 F H F' H' ∧ ∃ u y y2, rLst rStr F' u (wordsM n (ms.take i)) ∧ σ' = [some (.int (n : Int)), some w, some u, y, y2])
    (fun F2 H2 g2 => ⟨g1.trans g2, v2, none, none, Mn.mono g2.ff r3, rfl⟩) ?_ ?_
  · rintro F2 e2 i x u σ' F' H' hx e3 e4 rx ⟨g, uw, y, y2, ru, rfl⟩
    have hxm := hmp x (mem_of_at hx)
    have hlen := words_take_len (i := i) hmp (by omega) (by omega)
    walk_at "n"
    refine x_set (R := rLst rStr) (x := wordsM n (ms.take (i + 1))) e4 (Ev.is (ev_cat (ev_cat (ev_var rfl ru) (ev_lst (R := rStr) (el_cons ev_str el_nil) (by show 1 ≤ sizeLine; decide)) ?_) (ev_places (ev_var rfl rx) (fun y hy => by have := hxm.2 y hy; omega) (by rw [hxm.1]; omega) (fun v => rfl) fun i' y' v' F6 H6 hy g6 r6 => ?_) ?_) ?_) fun v5 F5 H5 g5 r5 => ?_
    · rw [sizeLine_eq]; show _ + 1 ≤ _; omega
    · have := hxm.2 y' (mem_of_at hy)
      exact ev_strN (Ev.nat (ev_var rfl r6)) (by omega)
    · rw [List.length_append, List.length_map, hxm.1, sizeLine_eq]; show _ + 1 + _ ≤ _; omega
    · rw [words_app hx, List.append_assoc]; rfl
    exact ⟨F5, e3.trans g5.ff, g5.fh, g.trans g5, v5, _, _, r5, rfl⟩
  · rintro σ' F' H' e1 e2 ⟨g, uw, y, y2, ru, rfl⟩
    rw [List.take_length] at ru
    walk_at "n"
    exact x_ret (x := textM n ms) e2 (ev_join ev_str (ev_var rfl ru) (words_fit (by omega) (by omega) hmp)) fun v' F2 H2 g2 r2 => k v' F2 H2 (g.trans g2) r2
abbrev sp__law_right (T : Tx K mg) : Sp := Sp2 rNat (rLst (rTup rNat)) (fun n ms => 1 ≤ n ∧ n ≤ 32 ∧ 1 ≤ ms.length ∧ ms.length ≤ 200 ∧ ∀ m ∈ ms, IsMap n m) rBl (fun _ _ => true)
theorem ok__law_right (T : Tx K mg) : FnOk P w K mg base CX0 7 T.a__law_right T.d__law_right ["_law_many", "_law_maps"] (sp__law_right T) := by
  refine T.F__law_right.ok sc__law_right (fun vs H Q E h => SpLen.len h) (fun cdv A outer s H vs Q E hr h => ?_)
  obtain ⟨F, v, w, n, ms, rfl, e, r1, r2, ⟨n0, n1, l0, l1, hmp⟩, k⟩ := h
  cases (show v = _ from r1)
  let t : Tn := ⟨n, ms, n0, n1, l0, l1, hmp⟩
  have ri : ∀ F (i : Int), rInt F (.int i) i := fun F i => rfl
  refine ⟨_, (by exact (pss_cons (ps_set (i := 2) sc__law_right.nd rfl (Or.inl rfl) (pe_make T.mk_Turns (ok_Turns_init T) (hr.mono (by decide)) rfl T.g_Turns T.b_Turns_init .nil pass0 (pa_cons (pv 0) (pa_cons (pv 1) pa_nil))))
      (pss_cons (ps_set (i := 3) sc__law_right.nd rfl (Or.inl rfl) (pe_call (ok__law_text T) (hr.mono (by decide)) rfl T.g__law_text T.F__law_text.kp T.b__law_text .nil pass0 (pa_cons (pv 0) (pa_cons (pv 1) pa_nil))))
      (pss_cons (ps_for PassesOwn.never rfl (pi_range1 rfl T.z_range (pa_cons pe_int pa_nil)) (pg_name (i := 4) sc__law_right.nd rfl (by first | exact Or.inl rfl | exact Or.inr rfl)) (pss_cons (ps_set (i := 5) sc__law_right.nd rfl (Or.inl rfl) (pe_call (ok_read T) (hr.mono (by decide)) rfl T.g_read T.F_read.kp T.b_read .nil pass0 (pa_cons (pv 3) pa_nil)))
      (pss_cons (ps_if (PW.pt (pw_or (pt_not (pt_val (pe_callB (r := rIsC T.C_Turns) (C8.call_isC T.ic_Turns) (by rfl) T.z_isinstance (by decide +kernel) (pa_cons (pv 5) (pa_cons (pe_glob (v := .ref T.C_Turns) rfl T.g_Turns rfl) pa_nil))))) (pw_or (pt_not (pt_cmpR (r := rEqG (DIns T.C_Turns (REq T.C_Turns))) (op_eqG (rcG_ins (ok_Turns_eq T) T.m_Turns_eq.at_ T.m_Turns_eq.fn T.b_Turns_eq pass0) (hr.mono (by decide))) (pv 5) (pv 2) (nomark _))) (pw_or1 (pt_cmpR op_ne (pe_call (ok_show T) (hr.mono (by decide)) rfl T.g_show T.F_show.kp T.b_show .nil pass0 (pa_cons (pv 5) pa_nil)) (pv 3) (nomark _)))))) (pss_one (ps_ret pe_bl)) pss_nil)
      (pss_one (ps_if (PW.pt (pw_or (pt_cmpR op_ne (pe_call (ok_show T) (hr.mono (by decide)) rfl T.g_show T.F_show.kp T.b_show .nil pass0 (pa_cons (pv 2) pa_nil)) (pv 3) (nomark _)) (pw_or (pt_cmpR op_ne (kfld K (pv 5) rfl) (pv 0) (nomark _)) (pw_or1 (pt_cmpR (r := rNeD K) (op_neD hr.units) (kfld K (pv 5) rfl) (pv 1) (nomark _)))))) (pss_one (ps_ret pe_bl)) pss_nil)))))
      (pss_one (ps_ret pe_bl)))))), ?_⟩
  walk_at "n"
  refine x_set (R := rTurns T.C_Turns) (x := t) e (ev_Turns (ev_var rfl (ri _ (n : Int))) (ev_var rfl r2)) fun v3 F1 H1 g1 r3 => ?_
  walk_at "n"
  refine x_set (R := rStr) (x := textM n ms) g1.fh (ev_call2 (ev_var rfl (show rNat _ _ n from rfl)) (ev_var rfl (Mn.mono g1.ff r2)) ⟨n1, l1, hmp⟩) fun v4 F2 H2 g2 r4 => ?_
  cases (show v4 = _ from r4)
  walk_at "n"
  refine x_forR (n := 2) g2.fh ev_int (by omega) (fun i σ' F' H' => Gr M0 F H F' H' ∧ ∃ y y2, σ' = [some (.int (n : Int)), some w, some v3, some (.str (textM n ms)), y, y2])
    (fun F3 H3 g3 => ⟨g1.trans (g2.trans g3), none, none, rfl⟩) ?_ ?_
  · rintro F3 e3 i σ' F' H' hi e4 e5 ⟨g, y, y2, rfl⟩
    have r2' := Mn.mono g.ff r2
    have r3' := Mn.mono (g2.ff.trans (e3.trans e4)) r3
    have rt : ∀ F, rText F (.str (textM n ms)) t := fun F => rfl
    have rs : ∀ F, rStr F (.str (textM n ms)) (textM n ms) := fun F => rfl
    walk_at "n"
    refine x_set (R := rTurns T.C_Turns) (x := t) e5 (ev_call1 (ev_var rfl (rt _)) trivial) fun v6 F6 H6 g6 r6 => ?_
    walk_at "n"
    refine x_if (b := false) g6.fh (EvT.is (et_or (b := false) (et_not (et_B (ev_isTurns (ev_var rfl r6)))) fun _ => EvT.is (et_or (et_not (et_test (ev_eqTurns (ev_var rfl r6) (ev_var rfl (Mn.mono g6.ff r3'))))) fun _ => et_test (ev_neS (ev_call1 (ev_var rfl r6) trivial) (ev_var rfl (rs _)))) ?_) rfl) (fun z => nomatch z) fun _ F7 H7 g7 => ?_
    · rw [decide_eq_true (show textM t.many t.maps = textM n ms from rfl)]; rfl
    walk_at "n"
    have g67 := g6.trans g7
    refine x_if (b := false) g7.fh (EvT.is (et_or (et_test (ev_neS (ev_call1 (ev_var rfl (Mn.mono g67.ff r3')) trivial) (ev_var rfl (rs _)))) fun _ => et_or (et_test (ev_neI (ev_fld (ev_var rfl (Mn.mono g7.ff r6))).nat (ev_var rfl (ri _ (n : Int))))) fun _ => et_test (ev_neD (ev_fld (ev_var rfl (Mn.mono g7.ff r6))) (ev_var rfl (Mn.mono g67.ff r2')))) ?_) (fun z => nomatch z) fun _ F8 H8 g8 => ?_
    · rw [decide_eq_true (show textM t.many t.maps = textM n ms from rfl), decide_eq_true (show ((t.many : Nat) : Int) = (n : Int) from rfl), decide_eq_true (show t.maps = ms from rfl)]; rfl
    walk_at "n"
    exact ⟨F8, e4.trans (g67.ff.trans g8.ff), g8.fh, g.trans (g67.trans g8), _, _, rfl⟩
  · rintro σ' F' H' e1 e2 ⟨g, y, y2, rfl⟩
    walk_at "n"
    exact x_ret e2 ev_bl fun v F2 H2 g2 r => k v F2 H2 (g.trans g2) r
def spLaw (K : PySem.W.Frag) : Sp := fun vs H Q _ => ∃ (a : Addr) (ns : List Int), vs = [.ref a] ∧ SqL K H a (ns.map V.int) ∧ ns.length ≤ 63 ∧ ∀ H', Q (.bl true) H'
abbrev sp_law (T : Tx K mg) : Sp := spLaw K
instance : SpLen (spLaw K) 1 := ⟨fun ⟨_, _, h, _⟩ => by rw [h]; rfl⟩
theorem ok_law (T : Tx K mg) : FnOk P w K mg base CX0 8 T.a_law T.d_law ["_law_script"] (sp_law T) := by
  refine T.F_law.ok sc_law (fun vs H Q E h => SpLen.len h) (fun cdv A outer s H vs Q E hr h => ?_)
  obtain ⟨sa, ns, rfl, hS, hlen, k⟩ := h
  refine ⟨_, (by exact (pss_cons (ps_for PassesOwn.never rfl (klist K (pe_op op_cat (pe_slice (r := rSlL K) sl_list (pv 0) po_none (po_some pe_int)) (pe_lst (pa_cons pe_int (pa_cons pe_int pa_nil))))) (pg_name (i := 1) sc_law.nd rfl (by first | exact Or.inl rfl | exact Or.inr rfl)) (pss_cons (ps_set (i := 2) sc_law.nd rfl (Or.inl rfl) (pe_call (ok__law_source_of T) (hr.mono (by decide)) rfl T.g__law_source_of T.F__law_source_of.kp T.b__law_source_of .nil pass0 (pa_cons (pv 1) pa_nil)))
      (pss_cons (ps_asg (pe_call (ok__law_turns T) (hr.mono (by decide)) rfl T.g__law_turns T.F__law_turns.kp T.b__law_turns .nil pass0 (pa_cons (pv 2) (pa_cons (pe_call (ok__law_one T) (hr.mono (by decide)) rfl T.g__law_one T.F__law_one.kp T.b__law_one .nil pass0 (pa_cons (pv 2) (pa_cons (pe_lst (pa_cons pe_int (pa_cons pe_int (pa_cons pe_int (pa_cons pe_int pa_nil))))) pa_nil))) pa_nil))) (kptup K rfl (pgs_cons (pg_name (i := 3) sc_law.nd rfl (by first | exact Or.inl rfl | exact Or.inr rfl)) (pgs_cons (pg_name (i := 4) sc_law.nd rfl (by first | exact Or.inl rfl | exact Or.inr rfl)) pgs_nil))))
      (pss_one (ps_if (pt_not (pt_val (pe_call (ok__law_right T) (hr.mono (by decide)) rfl T.g__law_right T.F__law_right.kp T.b__law_right .nil pass0 (pa_cons (pv 3) (pa_cons (pv 4) pa_nil))))) (pss_one (ps_ret pe_bl)) pss_nil)))))
      (pss_cons (ps_if (pt_cmpR op_eq (pe_op op_mod (pe_call (ok__law_cell_at T) (hr.mono (by decide)) rfl T.g__law_cell_at T.F__law_cell_at.kp T.b__law_cell_at .nil pass0 (pa_cons (pv 0) (pa_cons pe_int pa_nil))) pe_int) pe_int (nomark _)) (pss_cons (ps_set (i := 3) sc_law.nd rfl (Or.inr rfl) (pe_op op_add pe_int (pe_op op_mod (pe_op op_fdiv (pe_call (ok__law_cell_at T) (hr.mono (by decide)) rfl T.g__law_cell_at T.F__law_cell_at.kp T.b__law_cell_at .nil pass0 (pa_cons (pv 0) (pa_cons pe_int pa_nil))) pe_int) pe_int)))
      (pss_one (ps_ret (pe_call (ok__law_right T) (hr.mono (by decide)) rfl T.g__law_right T.F__law_right.kp T.b__law_right .nil pass0 (pa_cons (pv 3) (pa_cons (pe_lc (own := [("_law_k", 5)]) (g := gName 5) (tt := tYes) rfl sc_law.nd (pi_range1 rfl T.z_range (pa_cons pe_int pa_nil)) (blkOk_by (own := [("_law_k", 5)]) (N := N_law) (sc := defScope s_law) (by decide +kernel)) (fun _ _ _ _ _ => (pg_name (i := 5) sc_law.nd rfl (by first | exact Or.inl rfl | exact Or.inr rfl))) (fun _ _ _ _ _ => pts_nil) (fun _ _ _ _ _ => (pe_op (r := rRepU K) op_repU (pe_tup (pa_cons (pe_op op_mod (pv 5) (pv 3)) pa_nil)) (pv 3)))) pa_nil)))))) pss_nil)
      (pss_one (ps_ret pe_bl))))), ?_⟩
  have e : Ex H H := Ex.refl H
  have rq : rQ K H (.ref sa) ns := ⟨sa, rfl, hS⟩
  have ri : ∀ F (i : Int), rInt F (.int i) i := fun F i => rfl
  have rn : ∀ F (i : Nat), rNat F (.int (i : Int)) i := fun F i => rfl
  walk_at "n"
  refine x_forL (F := H) (xs := ns.take 10 ++ [0, 1]) e (ev_cat (ev_script (n := 10) (ev_var rfl rfl) hS) (ev_lst (el_cons ev_int (el_cons ev_int el_nil)) (by show 2 ≤ sizeLine; decide)) ?_)
    (fun i σ' F' H' => Ex H F' ∧ ∃ y1 y2 y3 y4 y5, σ' = [some (.ref sa), y1, y2, y3, y4, y5]) (fun F1 H1 g => ⟨g.ff, _, _, _, _, _, rfl⟩) ?_ ?_
  · rw [List.length_take, sizeLine_eq]
    show min 10 ns.length + 2 ≤ _
    omega
  · rintro F1 e1 i c u σ' F' H' hx e2 e3 r ⟨eH, y1, y2, y3, y4, y5, rfl⟩
    cases (show u = _ from r)
    walk_at "n"
    refine ⟨.int c, rfl, F', c, rfl, e3, fun b H2 g2 hb fb s2 => ?_⟩
    have fb2 : F' b = none := fb
    walk_at "n"
    refine x_pairS (c := 201) ((es_call1 (P1 := fun m => 1 ≤ m ∧ m ≤ 32) rfl ((es_callP (x := [9, 9, 9, 32]) rfl (fun F H _ _ => ev_lst (R := rNat) (el_cons ev_lit (el_cons ev_lit (el_cons ev_lit (el_cons ev_lit el_nil)))) (by show 4 ≤ sizeLine; decide)) ⟨by show 1 ≤ 4; omega, by show 4 ≤ 100000; omega⟩).mono (fun x hx => by simp at hx; omega) (Nat.le_refl _)) fun _ h => h).mono (P' := fun p => 1 ≤ p.1 ∧ p.1 ≤ 32 ∧ 1 ≤ p.2.length ∧ p.2.length ≤ 4 ∧ ∀ m ∈ p.2, IsMap p.1 m) (fun p ⟨x, ⟨_, hx⟩, h1, h2, h3⟩ => ⟨h1, by omega, h3⟩) (by omega)) g2.fh fb2 s2 (by omega) fun v1 v2 p F3 H3 g3 fb3 s3 hp r1 r2 => ?_
    obtain ⟨many, maps⟩ := p
    obtain ⟨p1, p2, p3, p4, p5⟩ := hp
    have p1 : 1 ≤ many := p1
    have p2 : many ≤ 32 := p2
    have p3 : 1 ≤ maps.length := p3
    have p4 : maps.length ≤ 4 := p4
    have p5 : ∀ m ∈ maps, IsMap many m := p5
    have r1 : rNat F3 v1 many := r1
    have r2 : rLst (rTup rNat) F3 v2 maps := r2
    walk_at "n"
    refine x_if (b := false) g3.fh (EvT.is (b := !true) (et_not (et_B (ev_call2 (ev_var rfl r1) (ev_var rfl r2) ⟨p1, p2, p3, by omega, p5⟩))) rfl) (fun z => nomatch z) fun _ F4 H4 g4 => ?_
    walk_at "n"
    have ff := g2.ff.trans (g3.ff.trans g4.ff)
    exact ⟨F4, e2.trans ff, g4.fh, eH.trans ff, _, _, _, _, _, rfl⟩
  · rintro σ' F' H' e1 e2 ⟨eH, y1, y2, y3, y4, y5, rfl⟩
    have rq' := Mn.mono eH rq
    walk_at "n"
    refine x_if e2 (et_test (ev_eqI (ev_mod (ev_call2 (y := 10) (ev_var rfl rq') ev_int.toNat trivial) ev_int (by decide)) ev_int)) (fun hb F3 H3 g3 => ?_) (fun hb F3 H3 g3 => ?_)
    · have rq3 := Mn.mono g3.ff rq'
      obtain ⟨m, hm, m0, m1⟩ : ∃ m : Nat, 1 + ns.getD 10 0 / 8 % 2 = (m : Int) ∧ 1 ≤ m ∧ m ≤ 2 := ⟨(1 + ns.getD 10 0 / 8 % 2).toNat, by omega, by omega, by omega⟩
      walk_at "n"
      refine x_set (R := rInt) (x := (m : Int)) g3.fh (Ev.is (ev_add ev_int (ev_mod (ev_fdiv (ev_call2 (y := 10) (ev_var rfl rq3) ev_int.toNat trivial) ev_int ⟨by decide, by decide⟩) ev_int (by decide))) hm) fun v4 F4 H4 g4 r4 => ?_
      cases (show v4 = _ from r4)
      walk_at "n"
      refine x_ret g4.fh (ev_call2 (y := (List.range 200).map fun p => List.replicate m (p % m)) (ev_var rfl (rn _ m)) (ev_lcRm (n := 200) (fun p => List.replicate m (p % m)) ev_int (by omega) (fun v => rfl) fun i F5 H5 hi g5 => Ev.is (ev_repU (R := rNat) (x := i % m) (n := (m : Int)) (ev_tup (R := rNat) (el_cons (Ev.toNat (Ev.is (ev_mod (ev_var rfl (ri _ (i : Int))) (ev_var rfl (ri _ (m : Int))) (by omega)) (by rw [Int.natCast_emod]))) el_nil) (by show 1 ≤ sizeLine; decide)) (ev_var rfl (ri _ (m : Int))) (by omega) (by omega)) (by rw [Int.toNat_natCast])) ⟨m0, by omega, by rw [List.length_map, List.length_range]; omega, by rw [List.length_map, List.length_range]; omega, fun x hx => ?_⟩) fun v F' H' g r => ?_
      · obtain ⟨p, hp, rfl⟩ := List.mem_map.mp hx
        exact ⟨List.length_replicate, fun y hy => by
          rw [(List.mem_replicate.mp hy).2]
          exact Nat.mod_lt _ (by omega)⟩
      · cases (show v = _ from r)
        exact k _
    walk_at "n"
    exact x_ret g3.fh ev_bl fun v F' H' g r => by
      cases (show v = _ from r)
      exact k _

end
theorem all_mk {l : PySem.W.OpenLaw} {w : World} {K : PySem.W.Frag} {h : Heap} {mg : Str → Option Value} {fa f_is_whole f_is_between f_is_map f_Turns_init f_Turns_eq f_is_number f_number_of f_show f_word_at f_map_at f_read f__law_cell_at f__law_source_of f__law_next f__law_one f__law_turns f__law_text f__law_right f_law C_Turns : Addr} {t_FIGURES t_MOST_PLACES t_MOST_SIGNS : Tok} (X : K.In h) (G : h.Ns mainGlobals mg) (hfa : mg "law" = some (.ref fa))
    {od_is_whole an_is_whole : Option Addr} {sl_is_whole : Array (Option Value)} {oc_is_whole kV_is_whole dc_is_whole pm_is_whole cd_is_whole ct_is_whole : Value}
    {od_is_between an_is_between : Option Addr} {sl_is_between : Array (Option Value)} {oc_is_between kV_is_between dc_is_between pm_is_between cd_is_between ct_is_between : Value}
    {od_is_map an_is_map : Option Addr} {sl_is_map : Array (Option Value)} {oc_is_map kV_is_map dc_is_map pm_is_map cd_is_map ct_is_map : Value}
    {od_Turns_init an_Turns_init : Option Addr} {sl_Turns_init : Array (Option Value)} {oc_Turns_init kV_Turns_init dc_Turns_init pm_Turns_init cd_Turns_init ct_Turns_init : Value}
    {od_Turns_eq an_Turns_eq : Option Addr} {sl_Turns_eq : Array (Option Value)} {oc_Turns_eq kV_Turns_eq dc_Turns_eq pm_Turns_eq cd_Turns_eq ct_Turns_eq : Value}
    {od_is_number an_is_number : Option Addr} {sl_is_number : Array (Option Value)} {oc_is_number kV_is_number dc_is_number pm_is_number cd_is_number ct_is_number : Value}
    {od_number_of an_number_of : Option Addr} {sl_number_of : Array (Option Value)} {oc_number_of kV_number_of dc_number_of pm_number_of cd_number_of ct_number_of : Value}
    {od_show an_show : Option Addr} {sl_show : Array (Option Value)} {oc_show kV_show dc_show pm_show cd_show ct_show : Value}
    {od_word_at an_word_at : Option Addr} {sl_word_at : Array (Option Value)} {oc_word_at kV_word_at dc_word_at pm_word_at cd_word_at ct_word_at : Value}
    {od_map_at an_map_at : Option Addr} {sl_map_at : Array (Option Value)} {oc_map_at kV_map_at dc_map_at pm_map_at cd_map_at ct_map_at : Value}
    {od_read an_read : Option Addr} {sl_read : Array (Option Value)} {oc_read kV_read dc_read pm_read cd_read ct_read : Value}
    {od__law_cell_at an__law_cell_at : Option Addr} {sl__law_cell_at : Array (Option Value)} {oc__law_cell_at kV__law_cell_at dc__law_cell_at pm__law_cell_at cd__law_cell_at ct__law_cell_at : Value}
    {od__law_source_of an__law_source_of : Option Addr} {sl__law_source_of : Array (Option Value)} {oc__law_source_of kV__law_source_of dc__law_source_of pm__law_source_of cd__law_source_of ct__law_source_of : Value}
    {od__law_next an__law_next : Option Addr} {sl__law_next : Array (Option Value)} {oc__law_next kV__law_next dc__law_next pm__law_next cd__law_next ct__law_next : Value}
    {od__law_one an__law_one : Option Addr} {sl__law_one : Array (Option Value)} {oc__law_one kV__law_one dc__law_one pm__law_one cd__law_one ct__law_one : Value}
    {od__law_turns an__law_turns : Option Addr} {sl__law_turns : Array (Option Value)} {oc__law_turns kV__law_turns dc__law_turns pm__law_turns cd__law_turns ct__law_turns : Value}
    {od__law_text an__law_text : Option Addr} {sl__law_text : Array (Option Value)} {oc__law_text kV__law_text dc__law_text pm__law_text cd__law_text ct__law_text : Value}
    {od__law_right an__law_right : Option Addr} {sl__law_right : Array (Option Value)} {oc__law_right kV__law_right dc__law_right pm__law_right cd__law_right ct__law_right : Value}
    {od_law an_law : Option Addr} {sl_law : Array (Option Value)} {oc_law kV_law dc_law pm_law cd_law ct_law : Value}
    (aC_Turns : PySem.W.nsIn K mainGlobals "Turns" = some (some (.ref C_Turns)))
    (a_is_whole : PySem.W.nsIn K mainGlobals "is_whole" = some (some (.ref f_is_whole)))
    (l_is_whole : K.lookup f_is_whole = some ⟨oc_is_whole, od_is_whole, .func (PySem.W.fnOf "is_whole" "is_whole" (defArgs s_is_whole) (defBody s_is_whole) (defScope s_is_whole) .none kV_is_whole dc_is_whole pm_is_whole an_is_whole cd_is_whole ct_is_whole), sl_is_whole⟩)
    (c_is_whole : PySem.W.codeIn K cd_is_whole "is_whole" = true)
    (k_is_whole : PySem.W.keepIn K (.ref f_is_whole) = true)
    (a_is_between : PySem.W.nsIn K mainGlobals "is_between" = some (some (.ref f_is_between)))
    (l_is_between : K.lookup f_is_between = some ⟨oc_is_between, od_is_between, .func (PySem.W.fnOf "is_between" "is_between" (defArgs s_is_between) (defBody s_is_between) (defScope s_is_between) .none kV_is_between dc_is_between pm_is_between an_is_between cd_is_between ct_is_between), sl_is_between⟩)
    (c_is_between : PySem.W.codeIn K cd_is_between "is_between" = true)
    (k_is_between : PySem.W.keepIn K (.ref f_is_between) = true)
    (a_is_map : PySem.W.nsIn K mainGlobals "is_map" = some (some (.ref f_is_map)))
    (l_is_map : K.lookup f_is_map = some ⟨oc_is_map, od_is_map, .func (PySem.W.fnOf "is_map" "is_map" (defArgs s_is_map) (defBody s_is_map) (defScope s_is_map) .none kV_is_map dc_is_map pm_is_map an_is_map cd_is_map ct_is_map), sl_is_map⟩)
    (c_is_map : PySem.W.codeIn K cd_is_map "is_map" = true)
    (k_is_map : PySem.W.keepIn K (.ref f_is_map) = true)
    (a_Turns_init : PySem.W.findIn K (.ref C_Turns) "__init__" = some (some (.ref f_Turns_init)))
    (i_Turns_init : PySem.W.isFn K (.ref f_Turns_init) = true)
    (l_Turns_init : K.lookup f_Turns_init = some ⟨oc_Turns_init, od_Turns_init, .func (PySem.W.fnOf "__init__" "Turns.__init__" (defArgs s_Turns_init) (defBody s_Turns_init) (defScope s_Turns_init) .none kV_Turns_init dc_Turns_init pm_Turns_init an_Turns_init cd_Turns_init ct_Turns_init), sl_Turns_init⟩)
    (c_Turns_init : PySem.W.codeIn K cd_Turns_init "Turns.__init__" = true)
    (k_Turns_init : PySem.W.keepIn K (.ref f_Turns_init) = true)
    (a_Turns_eq : PySem.W.findIn K (.ref C_Turns) "__eq__" = some (some (.ref f_Turns_eq)))
    (i_Turns_eq : PySem.W.isFn K (.ref f_Turns_eq) = true)
    (l_Turns_eq : K.lookup f_Turns_eq = some ⟨oc_Turns_eq, od_Turns_eq, .func (PySem.W.fnOf "__eq__" "Turns.__eq__" (defArgs s_Turns_eq) (defBody s_Turns_eq) (defScope s_Turns_eq) .none kV_Turns_eq dc_Turns_eq pm_Turns_eq an_Turns_eq cd_Turns_eq ct_Turns_eq), sl_Turns_eq⟩)
    (c_Turns_eq : PySem.W.codeIn K cd_Turns_eq "Turns.__eq__" = true)
    (k_Turns_eq : PySem.W.keepIn K (.ref f_Turns_eq) = true)
    (a_is_number : PySem.W.nsIn K mainGlobals "is_number" = some (some (.ref f_is_number)))
    (l_is_number : K.lookup f_is_number = some ⟨oc_is_number, od_is_number, .func (PySem.W.fnOf "is_number" "is_number" (defArgs s_is_number) (defBody s_is_number) (defScope s_is_number) .none kV_is_number dc_is_number pm_is_number an_is_number cd_is_number ct_is_number), sl_is_number⟩)
    (c_is_number : PySem.W.codeIn K cd_is_number "is_number" = true)
    (k_is_number : PySem.W.keepIn K (.ref f_is_number) = true)
    (a_number_of : PySem.W.nsIn K mainGlobals "number_of" = some (some (.ref f_number_of)))
    (l_number_of : K.lookup f_number_of = some ⟨oc_number_of, od_number_of, .func (PySem.W.fnOf "number_of" "number_of" (defArgs s_number_of) (defBody s_number_of) (defScope s_number_of) .none kV_number_of dc_number_of pm_number_of an_number_of cd_number_of ct_number_of), sl_number_of⟩)
    (c_number_of : PySem.W.codeIn K cd_number_of "number_of" = true)
    (k_number_of : PySem.W.keepIn K (.ref f_number_of) = true)
    (a_show : PySem.W.nsIn K mainGlobals "show" = some (some (.ref f_show)))
    (l_show : K.lookup f_show = some ⟨oc_show, od_show, .func (PySem.W.fnOf "show" "show" (defArgs s_show) (defBody s_show) (defScope s_show) .none kV_show dc_show pm_show an_show cd_show ct_show), sl_show⟩)
    (c_show : PySem.W.codeIn K cd_show "show" = true)
    (k_show : PySem.W.keepIn K (.ref f_show) = true)
    (a_word_at : PySem.W.nsIn K mainGlobals "word_at" = some (some (.ref f_word_at)))
    (l_word_at : K.lookup f_word_at = some ⟨oc_word_at, od_word_at, .func (PySem.W.fnOf "word_at" "word_at" (defArgs s_word_at) (defBody s_word_at) (defScope s_word_at) .none kV_word_at dc_word_at pm_word_at an_word_at cd_word_at ct_word_at), sl_word_at⟩)
    (c_word_at : PySem.W.codeIn K cd_word_at "word_at" = true)
    (k_word_at : PySem.W.keepIn K (.ref f_word_at) = true)
    (a_map_at : PySem.W.nsIn K mainGlobals "map_at" = some (some (.ref f_map_at)))
    (l_map_at : K.lookup f_map_at = some ⟨oc_map_at, od_map_at, .func (PySem.W.fnOf "map_at" "map_at" (defArgs s_map_at) (defBody s_map_at) (defScope s_map_at) .none kV_map_at dc_map_at pm_map_at an_map_at cd_map_at ct_map_at), sl_map_at⟩)
    (c_map_at : PySem.W.codeIn K cd_map_at "map_at" = true)
    (k_map_at : PySem.W.keepIn K (.ref f_map_at) = true)
    (a_read : PySem.W.nsIn K mainGlobals "read" = some (some (.ref f_read)))
    (l_read : K.lookup f_read = some ⟨oc_read, od_read, .func (PySem.W.fnOf "read" "read" (defArgs s_read) (defBody s_read) (defScope s_read) .none kV_read dc_read pm_read an_read cd_read ct_read), sl_read⟩)
    (c_read : PySem.W.codeIn K cd_read "read" = true)
    (k_read : PySem.W.keepIn K (.ref f_read) = true)
    (a__law_cell_at : PySem.W.nsIn K mainGlobals "_law_cell_at" = some (some (.ref f__law_cell_at)))
    (l__law_cell_at : K.lookup f__law_cell_at = some ⟨oc__law_cell_at, od__law_cell_at, .func (PySem.W.fnOf "_law_cell_at" "_law_cell_at" (defArgs s__law_cell_at) (defBody s__law_cell_at) (defScope s__law_cell_at) .none kV__law_cell_at dc__law_cell_at pm__law_cell_at an__law_cell_at cd__law_cell_at ct__law_cell_at), sl__law_cell_at⟩)
    (c__law_cell_at : PySem.W.codeIn K cd__law_cell_at "_law_cell_at" = true)
    (k__law_cell_at : PySem.W.keepIn K (.ref f__law_cell_at) = true)
    (a__law_source_of : PySem.W.nsIn K mainGlobals "_law_source_of" = some (some (.ref f__law_source_of)))
    (l__law_source_of : K.lookup f__law_source_of = some ⟨oc__law_source_of, od__law_source_of, .func (PySem.W.fnOf "_law_source_of" "_law_source_of" (defArgs s__law_source_of) (defBody s__law_source_of) (defScope s__law_source_of) .none kV__law_source_of dc__law_source_of pm__law_source_of an__law_source_of cd__law_source_of ct__law_source_of), sl__law_source_of⟩)
    (c__law_source_of : PySem.W.codeIn K cd__law_source_of "_law_source_of" = true)
    (k__law_source_of : PySem.W.keepIn K (.ref f__law_source_of) = true)
    (a__law_next : PySem.W.nsIn K mainGlobals "_law_next" = some (some (.ref f__law_next)))
    (l__law_next : K.lookup f__law_next = some ⟨oc__law_next, od__law_next, .func (PySem.W.fnOf "_law_next" "_law_next" (defArgs s__law_next) (defBody s__law_next) (defScope s__law_next) .none kV__law_next dc__law_next pm__law_next an__law_next cd__law_next ct__law_next), sl__law_next⟩)
    (c__law_next : PySem.W.codeIn K cd__law_next "_law_next" = true)
    (k__law_next : PySem.W.keepIn K (.ref f__law_next) = true)
    (a__law_one : PySem.W.nsIn K mainGlobals "_law_one" = some (some (.ref f__law_one)))
    (l__law_one : K.lookup f__law_one = some ⟨oc__law_one, od__law_one, .func (PySem.W.fnOf "_law_one" "_law_one" (defArgs s__law_one) (defBody s__law_one) (defScope s__law_one) .none kV__law_one dc__law_one pm__law_one an__law_one cd__law_one ct__law_one), sl__law_one⟩)
    (c__law_one : PySem.W.codeIn K cd__law_one "_law_one" = true)
    (k__law_one : PySem.W.keepIn K (.ref f__law_one) = true)
    (a__law_turns : PySem.W.nsIn K mainGlobals "_law_turns" = some (some (.ref f__law_turns)))
    (l__law_turns : K.lookup f__law_turns = some ⟨oc__law_turns, od__law_turns, .func (PySem.W.fnOf "_law_turns" "_law_turns" (defArgs s__law_turns) (defBody s__law_turns) (defScope s__law_turns) .none kV__law_turns dc__law_turns pm__law_turns an__law_turns cd__law_turns ct__law_turns), sl__law_turns⟩)
    (c__law_turns : PySem.W.codeIn K cd__law_turns "_law_turns" = true)
    (k__law_turns : PySem.W.keepIn K (.ref f__law_turns) = true)
    (a__law_text : PySem.W.nsIn K mainGlobals "_law_text" = some (some (.ref f__law_text)))
    (l__law_text : K.lookup f__law_text = some ⟨oc__law_text, od__law_text, .func (PySem.W.fnOf "_law_text" "_law_text" (defArgs s__law_text) (defBody s__law_text) (defScope s__law_text) .none kV__law_text dc__law_text pm__law_text an__law_text cd__law_text ct__law_text), sl__law_text⟩)
    (c__law_text : PySem.W.codeIn K cd__law_text "_law_text" = true)
    (k__law_text : PySem.W.keepIn K (.ref f__law_text) = true)
    (a__law_right : PySem.W.nsIn K mainGlobals "_law_right" = some (some (.ref f__law_right)))
    (l__law_right : K.lookup f__law_right = some ⟨oc__law_right, od__law_right, .func (PySem.W.fnOf "_law_right" "_law_right" (defArgs s__law_right) (defBody s__law_right) (defScope s__law_right) .none kV__law_right dc__law_right pm__law_right an__law_right cd__law_right ct__law_right), sl__law_right⟩)
    (c__law_right : PySem.W.codeIn K cd__law_right "_law_right" = true)
    (k__law_right : PySem.W.keepIn K (.ref f__law_right) = true)
    (a_law : PySem.W.nsIn K mainGlobals "law" = some (some (.ref f_law)))
    (l_law : K.lookup f_law = some ⟨oc_law, od_law, .func (PySem.W.fnOf "law" "law" (defArgs s_law) (defBody s_law) (defScope s_law) .none kV_law dc_law pm_law an_law cd_law ct_law), sl_law⟩)
    (c_law : PySem.W.codeIn K cd_law "law" = true)
    (k_law : PySem.W.keepIn K (.ref f_law) = true)
    (pg_Turns : PySem.W.plainGet K C_Turns Str.empty = true)
    (hd_Turns : PySem.W.hasDictIn K C_Turns = true)
    (po_Turns : PySem.W.plainOver K C_Turns = true)
    (sa_Turns : PySem.W.findIn K (.ref C_Turns) "__setattr__" = some (some (.builtin "object.__setattr__")))
    (kc_Turns : PySem.W.keepIn K (.ref C_Turns) = true)
    (mk_Turns : PySem.W.makesIn K C_Turns = true)
    (ha_Turns : PySem.W.findIn K (.ref C_Turns) "__class__" = some (some (.builtin "object.__class__")))
    (hn_Turns : PySem.W.specialIn K (.builtin "object.__class__") "__get__" = some (some (.builtin "getset_descriptor.__get__")))
    (ht_Turns : PySem.W.takesIn K (.builtin "object.__class__") = some true)
    (hm_Turns : PySem.W.mroIn K C_Turns (.type "object") = some true)
    (na_Turns_many : PySem.W.findIn K (.ref C_Turns) "many" = some none)
    (na_Turns_maps : PySem.W.findIn K (.ref C_Turns) "maps" = some none)
    (z_all : PySem.W.nsIn K mainGlobals "all" = some none)
    (z_bool : PySem.W.nsIn K mainGlobals "bool" = some none)
    (z_int : PySem.W.nsIn K mainGlobals "int" = some none)
    (z_isinstance : PySem.W.nsIn K mainGlobals "isinstance" = some none)
    (z_len : PySem.W.nsIn K mainGlobals "len" = some none)
    (z_list : PySem.W.nsIn K mainGlobals "list" = some none)
    (z_min : PySem.W.nsIn K mainGlobals "min" = some none)
    (z_range : PySem.W.nsIn K mainGlobals "range" = some none)
    (z_str : PySem.W.nsIn K mainGlobals "str" = some none)
    (z_tuple : PySem.W.nsIn K mainGlobals "tuple" = some none)
    (g_FIGURES : PySem.W.nsIn K mainGlobals "FIGURES" = some (some (.str "0123456789" t_FIGURES)))
    (g_MOST_PLACES : PySem.W.nsIn K mainGlobals "MOST_PLACES" = some (some (.int 32 t_MOST_PLACES)))
    (g_MOST_SIGNS : PySem.W.nsIn K mainGlobals "MOST_SIGNS" = some (some (.int 200 t_MOST_SIGNS)))
    : ∃ fd : FuncData, (∀ (s : Shared) (v : Value), BindsTo s fd ⟨[v], []⟩ [("_law_script", v)]) ∧ ∀ base : Heap, K.In base → base.Ns mainGlobals mg → FnOk l.prog w K mg base CX0 8 fa fd ["_law_script"] (spLaw K) := by
  have e : f_law = fa := by
    have e := hfa.symm.trans (PySem.W.mg_of X G a_law)
    cases e
    rfl
  subst e
  have F_is_whole := fun_mk (st := s_is_whole) l_is_whole c_is_whole k_is_whole
  have b_is_whole := F_is_whole.binds (ps := ["thing"]) fun _ _ _ _ _ _ us hl => match us, hl with | [_], _ => rfl
  have F_is_between := fun_mk (st := s_is_between) l_is_between c_is_between k_is_between
  have b_is_between := F_is_between.binds (ps := ["thing", "least", "most"]) fun _ _ _ _ _ _ us hl => match us, hl with | [_, _, _], _ => rfl
  have F_is_map := fun_mk (st := s_is_map) l_is_map c_is_map k_is_map
  have b_is_map := F_is_map.binds (ps := ["thing", "many"]) fun _ _ _ _ _ _ us hl => match us, hl with | [_, _], _ => rfl
  have F_Turns_init := fun_mk (st := s_Turns_init) l_Turns_init c_Turns_init k_Turns_init
  have b_Turns_init := F_Turns_init.binds (ps := ["self", "many", "maps"]) fun _ _ _ _ _ _ us hl => match us, hl with | [_, _, _], _ => rfl
  have F_Turns_eq := fun_mk (st := s_Turns_eq) l_Turns_eq c_Turns_eq k_Turns_eq
  have b_Turns_eq := F_Turns_eq.binds (ps := ["self", "other"]) fun _ _ _ _ _ _ us hl => match us, hl with | [_, _], _ => rfl
  have F_is_number := fun_mk (st := s_is_number) l_is_number c_is_number k_is_number
  have b_is_number := F_is_number.binds (ps := ["word", "most"]) fun _ _ _ _ _ _ us hl => match us, hl with | [_, _], _ => rfl
  have F_number_of := fun_mk (st := s_number_of) l_number_of c_number_of k_number_of
  have b_number_of := F_number_of.binds (ps := ["word", "low", "high"]) fun _ _ _ _ _ _ us hl => match us, hl with | [_, _, _], _ => rfl
  have F_show := fun_mk (st := s_show) l_show c_show k_show
  have b_show := F_show.binds (ps := ["turns"]) fun _ _ _ _ _ _ us hl => match us, hl with | [_], _ => rfl
  have F_word_at := fun_mk (st := s_word_at) l_word_at c_word_at k_word_at
  have b_word_at := F_word_at.binds (ps := ["words", "at"]) fun _ _ _ _ _ _ us hl => match us, hl with | [_, _], _ => rfl
  have F_map_at := fun_mk (st := s_map_at) l_map_at c_map_at k_map_at
  have b_map_at := F_map_at.binds (ps := ["words", "at", "many"]) fun _ _ _ _ _ _ us hl => match us, hl with | [_, _, _], _ => rfl
  have F_read := fun_mk (st := s_read) l_read c_read k_read
  have b_read := F_read.binds (ps := ["text"]) fun _ _ _ _ _ _ us hl => match us, hl with | [_], _ => rfl
  have F__law_cell_at := fun_mk (st := s__law_cell_at) l__law_cell_at c__law_cell_at k__law_cell_at
  have b__law_cell_at := F__law_cell_at.binds (ps := ["_law_script", "_law_k"]) fun _ _ _ _ _ _ us hl => match us, hl with | [_, _], _ => rfl
  have F__law_source_of := fun_mk (st := s__law_source_of) l__law_source_of c__law_source_of k__law_source_of
  have b__law_source_of := F__law_source_of.binds (ps := ["_law_cell"]) fun _ _ _ _ _ _ us hl => match us, hl with | [_], _ => rfl
  have F__law_next := fun_mk (st := s__law_next) l__law_next c__law_next k__law_next
  have b__law_next := F__law_next.binds (ps := ["_law_source", "_law_many"]) fun _ _ _ _ _ _ us hl => match us, hl with | [_, _], _ => rfl
  have F__law_one := fun_mk (st := s__law_one) l__law_one c__law_one k__law_one
  have b__law_one := F__law_one.binds (ps := ["_law_source", "_law_some"]) fun _ _ _ _ _ _ us hl => match us, hl with | [_, _], _ => rfl
  have F__law_turns := fun_mk (st := s__law_turns) l__law_turns c__law_turns k__law_turns
  have b__law_turns := F__law_turns.binds (ps := ["_law_source", "_law_most"]) fun _ _ _ _ _ _ us hl => match us, hl with | [_, _], _ => rfl
  have F__law_text := fun_mk (st := s__law_text) l__law_text c__law_text k__law_text
  have b__law_text := F__law_text.binds (ps := ["_law_many", "_law_maps"]) fun _ _ _ _ _ _ us hl => match us, hl with | [_, _], _ => rfl
  have F__law_right := fun_mk (st := s__law_right) l__law_right c__law_right k__law_right
  have b__law_right := F__law_right.binds (ps := ["_law_many", "_law_maps"]) fun _ _ _ _ _ _ us hl => match us, hl with | [_, _], _ => rfl
  have F_law := fun_mk (st := s_law) l_law c_law k_law
  have b_law := F_law.binds (ps := ["_law_script"]) fun _ _ _ _ _ _ us hl => match us, hl with | [_], _ => rfl
  let T : Tx K mg := {
a_is_whole := f_is_whole,
    d_is_whole := _,
    F_is_whole := F_is_whole,
    b_is_whole := b_is_whole,
    g_is_whole := PySem.W.mg_of X G a_is_whole,
    a_is_between := f_is_between,
    d_is_between := _,
    F_is_between := F_is_between,
    b_is_between := b_is_between,
    g_is_between := PySem.W.mg_of X G a_is_between,
    a_is_map := f_is_map,
    d_is_map := _,
    F_is_map := F_is_map,
    b_is_map := b_is_map,
    g_is_map := PySem.W.mg_of X G a_is_map,
    a_Turns_init := f_Turns_init,
    d_Turns_init := _,
    F_Turns_init := F_Turns_init,
    b_Turns_init := b_Turns_init,
    a_Turns_eq := f_Turns_eq,
    d_Turns_eq := _,
    F_Turns_eq := F_Turns_eq,
    b_Turns_eq := b_Turns_eq,
    a_is_number := f_is_number,
    d_is_number := _,
    F_is_number := F_is_number,
    b_is_number := b_is_number,
    g_is_number := PySem.W.mg_of X G a_is_number,
    a_number_of := f_number_of,
    d_number_of := _,
    F_number_of := F_number_of,
    b_number_of := b_number_of,
    g_number_of := PySem.W.mg_of X G a_number_of,
    a_show := f_show,
    d_show := _,
    F_show := F_show,
    b_show := b_show,
    g_show := PySem.W.mg_of X G a_show,
    a_word_at := f_word_at,
    d_word_at := _,
    F_word_at := F_word_at,
    b_word_at := b_word_at,
    g_word_at := PySem.W.mg_of X G a_word_at,
    a_map_at := f_map_at,
    d_map_at := _,
    F_map_at := F_map_at,
    b_map_at := b_map_at,
    g_map_at := PySem.W.mg_of X G a_map_at,
    a_read := f_read,
    d_read := _,
    F_read := F_read,
    b_read := b_read,
    g_read := PySem.W.mg_of X G a_read,
    a__law_cell_at := f__law_cell_at,
    d__law_cell_at := _,
    F__law_cell_at := F__law_cell_at,
    b__law_cell_at := b__law_cell_at,
    g__law_cell_at := PySem.W.mg_of X G a__law_cell_at,
    a__law_source_of := f__law_source_of,
    d__law_source_of := _,
    F__law_source_of := F__law_source_of,
    b__law_source_of := b__law_source_of,
    g__law_source_of := PySem.W.mg_of X G a__law_source_of,
    a__law_next := f__law_next,
    d__law_next := _,
    F__law_next := F__law_next,
    b__law_next := b__law_next,
    g__law_next := PySem.W.mg_of X G a__law_next,
    a__law_one := f__law_one,
    d__law_one := _,
    F__law_one := F__law_one,
    b__law_one := b__law_one,
    g__law_one := PySem.W.mg_of X G a__law_one,
    a__law_turns := f__law_turns,
    d__law_turns := _,
    F__law_turns := F__law_turns,
    b__law_turns := b__law_turns,
    g__law_turns := PySem.W.mg_of X G a__law_turns,
    a__law_text := f__law_text,
    d__law_text := _,
    F__law_text := F__law_text,
    b__law_text := b__law_text,
    g__law_text := PySem.W.mg_of X G a__law_text,
    a__law_right := f__law_right,
    d__law_right := _,
    F__law_right := F__law_right,
    b__law_right := b__law_right,
    g__law_right := PySem.W.mg_of X G a__law_right,
    a_law := f_law,
    d_law := _,
    F_law := F_law,
    b_law := b_law,
    g_law := PySem.W.mg_of X G a_law,
    C_Turns := C_Turns,
    cl_Turns := ⟨pg_Turns, hd_Turns, po_Turns, sa_Turns⟩,
    g_Turns := PySem.W.mg_of X G aC_Turns,
    mk_Turns := ⟨mk_Turns, a_Turns_init, i_Turns_init, kc_Turns⟩,
    ic_Turns := ⟨⟨pg_Turns, hd_Turns, po_Turns, sa_Turns⟩, ha_Turns, hn_Turns, ht_Turns, hm_Turns, kit_same⟩,
    m_Turns_eq := ⟨a_Turns_eq, i_Turns_eq, k_Turns_eq⟩,
    na_Turns_many := na_Turns_many,
    na_Turns_maps := na_Turns_maps,
    z_all := PySem.W.mg_none_of X G z_all,
    z_bool := PySem.W.mg_none_of X G z_bool,
    z_int := PySem.W.mg_none_of X G z_int,
    z_isinstance := PySem.W.mg_none_of X G z_isinstance,
    z_len := PySem.W.mg_none_of X G z_len,
    z_list := PySem.W.mg_none_of X G z_list,
    z_min := PySem.W.mg_none_of X G z_min,
    z_range := PySem.W.mg_none_of X G z_range,
    z_str := PySem.W.mg_none_of X G z_str,
    z_tuple := PySem.W.mg_none_of X G z_tuple,
    t_FIGURES := t_FIGURES,
    c_FIGURES := PySem.W.mg_of X G g_FIGURES,
    t_MOST_PLACES := t_MOST_PLACES,
    c_MOST_PLACES := PySem.W.mg_of X G g_MOST_PLACES,
    t_MOST_SIGNS := t_MOST_SIGNS,
    c_MOST_SIGNS := PySem.W.mg_of X G g_MOST_SIGNS }
  refine ⟨_, fun s v => ?bb, fun base _ _ => ok_law T⟩
  case bb => exact .of_eq rfl
theorem walk {l : PySem.W.OpenLaw} {q : Program} {loose : List Str} {XP : (Str → Option Value) → Heap → Prop} {YP : World → Heap → Prop} {d : DefRec} {K : Params → PySem.W.Frag} (hn : l.most = some 63) (hdf : d.params.defaults = [])
    (hY : ∀ (w : World) (h : Heap), YP w h → (K w.params).In h)
    (F : ∀ (w : World) (mg : Str → Option Value) (fa : Addr) (h : Heap), (K w.params).In h → h.Ns mainGlobals mg → mg d.name = some (.ref fa) →
      ∃ fd : FuncData, (∀ (s : Shared) (u : Value), BindsTo s fd ⟨[u], []⟩ [("_law_script", u)]) ∧ ∀ base : Heap, (K w.params).In base → base.Ns mainGlobals mg → FnOk l.prog w (K w.params) mg base CX0 8 fa fd ["_law_script"] (spLaw (K w.params))) :
    PySem.W.WalkO q loose XP YP l.row.toRowW d [] (fun f vs => PySem.call f vs) :=
  L2.walk_of (n := 63) (k := 8) (x := "_law_script") (CX := fun _ => CX0) (sp := fun w => spLaw (K w.params)) hn (by decide) hdf ⟨rfl, by decide, by decide⟩ hY F (fun _ _ a ns hl _ hS => ⟨a, ns, rfl, hS, hl, fun _ => rfl⟩) fun _ _ _ _ _ z => z
end K72
open PySem PySem.W PyProof.Rows
set_option maxRecDepth 100000 in
set_option maxHeartbeats 0 in
theorem PySem.Challenge.cw_elderdraw_k72_turns_as_texts_holds : PySem.Challenge.rw_elderdraw_k72_turns_as_texts.Holds := by
  w_on; o_law; k_head; (case hw => w_witness2)
  k_fill
  refine K72.walk (l := PySem.Challenge.rw_elderdraw_k72_turns_as_texts) rfl rfl (fun w h Y => PySem.W.kIn_of Y) ?F
  case F =>
    intro w mg fa h KX G hmg
    refine' K72.all_mk KX G hmg ?aC_Turns ?a_is_whole ?l_is_whole ?c_is_whole ?k_is_whole ?a_is_between ?l_is_between ?c_is_between ?k_is_between ?a_is_map ?l_is_map ?c_is_map ?k_is_map ?a_Turns_init ?i_Turns_init ?l_Turns_init ?c_Turns_init ?k_Turns_init ?a_Turns_eq ?i_Turns_eq ?l_Turns_eq ?c_Turns_eq ?k_Turns_eq ?a_is_number ?l_is_number ?c_is_number ?k_is_number ?a_number_of ?l_number_of ?c_number_of ?k_number_of ?a_show ?l_show ?c_show ?k_show ?a_word_at ?l_word_at ?c_word_at ?k_word_at ?a_map_at ?l_map_at ?c_map_at ?k_map_at ?a_read ?l_read ?c_read ?k_read ?a__law_cell_at ?l__law_cell_at ?c__law_cell_at ?k__law_cell_at ?a__law_source_of ?l__law_source_of ?c__law_source_of ?k__law_source_of ?a__law_next ?l__law_next ?c__law_next ?k__law_next ?a__law_one ?l__law_one ?c__law_one ?k__law_one ?a__law_turns ?l__law_turns ?c__law_turns ?k__law_turns ?a__law_text ?l__law_text ?c__law_text ?k__law_text ?a__law_right ?l__law_right ?c__law_right ?k__law_right ?a_law ?l_law ?c_law ?k_law ?pg_Turns ?hd_Turns ?po_Turns ?sa_Turns ?kc_Turns ?mk_Turns ?ha_Turns ?hn_Turns ?ht_Turns ?hm_Turns ?na_Turns_many ?na_Turns_maps ?z_all ?z_bool ?z_int ?z_isinstance ?z_len ?z_list ?z_min ?z_range ?z_str ?z_tuple ?g_FIGURES ?g_MOST_PLACES ?g_MOST_SIGNS
    (case aC_Turns => k_is)
    (case a_is_whole => k_is)
    (case l_is_whole => k_is)
    (case c_is_whole => k_is)
    (case k_is_whole => k_is)
    (case a_is_between => k_is)
    (case l_is_between => k_is)
    (case c_is_between => k_is)
    (case k_is_between => k_is)
    (case a_is_map => k_is)
    (case l_is_map => k_is)
    (case c_is_map => k_is)
    (case k_is_map => k_is)
    (case a_Turns_init => k_is)
    (case i_Turns_init => k_is)
    (case l_Turns_init => k_is)
    (case c_Turns_init => k_is)
    (case k_Turns_init => k_is)
    (case a_Turns_eq => k_is)
    (case i_Turns_eq => k_is)
    (case l_Turns_eq => k_is)
    (case c_Turns_eq => k_is)
    (case k_Turns_eq => k_is)
    (case a_is_number => k_is)
    (case l_is_number => k_is)
    (case c_is_number => k_is)
    (case k_is_number => k_is)
    (case a_number_of => k_is)
    (case l_number_of => k_is)
    (case c_number_of => k_is)
    (case k_number_of => k_is)
    (case a_show => k_is)
    (case l_show => k_is)
    (case c_show => k_is)
    (case k_show => k_is)
    (case a_word_at => k_is)
    (case l_word_at => k_is)
    (case c_word_at => k_is)
    (case k_word_at => k_is)
    (case a_map_at => k_is)
    (case l_map_at => k_is)
    (case c_map_at => k_is)
    (case k_map_at => k_is)
    (case a_read => k_is)
    (case l_read => k_is)
    (case c_read => k_is)
    (case k_read => k_is)
    (case a__law_cell_at => k_is)
    (case l__law_cell_at => k_is)
    (case c__law_cell_at => k_is)
    (case k__law_cell_at => k_is)
    (case a__law_source_of => k_is)
    (case l__law_source_of => k_is)
    (case c__law_source_of => k_is)
    (case k__law_source_of => k_is)
    (case a__law_next => k_is)
    (case l__law_next => k_is)
    (case c__law_next => k_is)
    (case k__law_next => k_is)
    (case a__law_one => k_is)
    (case l__law_one => k_is)
    (case c__law_one => k_is)
    (case k__law_one => k_is)
    (case a__law_turns => k_is)
    (case l__law_turns => k_is)
    (case c__law_turns => k_is)
    (case k__law_turns => k_is)
    (case a__law_text => k_is)
    (case l__law_text => k_is)
    (case c__law_text => k_is)
    (case k__law_text => k_is)
    (case a__law_right => k_is)
    (case l__law_right => k_is)
    (case c__law_right => k_is)
    (case k__law_right => k_is)
    (case a_law => k_is)
    (case l_law => k_is)
    (case c_law => k_is)
    (case k_law => k_is)
    (case pg_Turns => k_is)
    (case hd_Turns => k_is)
    (case po_Turns => k_is)
    (case sa_Turns => k_is)
    (case kc_Turns => k_is)
    (case mk_Turns => k_is)
    (case ha_Turns => k_is)
    (case hn_Turns => k_is)
    (case ht_Turns => k_is)
    (case hm_Turns => k_is)
    (case na_Turns_many => k_is)
    (case na_Turns_maps => k_is)
    (case z_all => k_is)
    (case z_bool => k_is)
    (case z_int => k_is)
    (case z_isinstance => k_is)
    (case z_len => k_is)
    (case z_list => k_is)
    (case z_min => k_is)
    (case z_range => k_is)
    (case z_str => k_is)
    (case z_tuple => k_is)
    (case g_FIGURES => k_is)
    (case g_MOST_PLACES => k_is)
    (case g_MOST_SIGNS => k_is)

