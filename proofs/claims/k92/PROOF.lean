import PyProof.Rows.All
import Wide.All
import OpenK.AllK
import Wide.FinOn
import HandS.ForMost
import HandS.IsInst
import HandS.SetFor
import HandS.Conv
import HandS.Wide
import HandS.OwnEq
import HandS.Style
import PySem.Challenge.RW_elderdraw_k92_whole_once_and_elder
set_option Elab.async false
set_option linter.all false
set_option maxRecDepth 100000
set_option maxHeartbeats 2000000
namespace El
open PySem PySem.Spec L2

/-! ### heaps -/
def Ex (H H' : Hp) : Prop := ∀ a o, H a = some o → H' a = some o
theorem Ex.refl (H : Hp) : Ex H H := fun _ _ h => h
theorem Ex.trans {H H1 H2 : Hp} (a : Ex H H1) (b : Ex H1 H2) : Ex H H2 := fun x o h => b x o (a x o h)
theorem Ex.new {H : Hp} {p : Addr} {o : HO} (h : H p = none) : Ex H (upd H p o) := fun a u e => by
  rw [upd_ne (ne_of_none e h)]
  exact e
theorem Ex.mut {H H' : Hp} {p : Addr} {o : HO} (e : Ex H H') (h : H p = none) : Ex H (upd H' p o) := fun a u ha => by
  rw [upd_ne (ne_of_none ha h)]
  exact e a u ha
theorem Ex.free {H H' : Hp} (e : Ex H H') {p : Addr} (h : H' p = none) : H p = none := by
  cases q : H p with
  | none => rfl
  | some o => rw [e p o q] at h; cases h
theorem Ex.both {F H : Hp} {p : Addr} {o : HO} (e : Ex F H) : Ex (upd F p o) (upd H p o) := fun a u h => by
  by_cases q : a = p
  · subst q; rw [upd_same] at h ⊢; exact h
  · rw [upd_ne q] at h ⊢; exact e a u h
/-- growth: F the frozen part, H all; M may be changed -/
structure Gr (M : Addr → Prop) (F H F' H' : Hp) : Prop where
  ff : Ex F F'
  fh : Ex F' H'
  hh : ∀ b o, ¬ M b → H b = some o → H' b = some o
  nw : ∀ b, ¬ M b → H b ≠ none → F b = none → F' b = none
  dm : ∀ b, H b ≠ none → H' b ≠ none
abbrev M0 : Addr → Prop := fun _ => False
abbrev M1 (a : Addr) : Addr → Prop := fun b => b = a
theorem Gr.refl {M : Addr → Prop} {F H : Hp} (e : Ex F H) : Gr M F H F H := ⟨Ex.refl F, e, fun _ _ _ h => h, fun _ _ _ h => h, fun _ h => h⟩
theorem Gr.trans {M : Addr → Prop} {F H F1 H1 F2 H2 : Hp} (a : Gr M F H F1 H1) (b : Gr M F1 H1 F2 H2) : Gr M F H F2 H2 :=
  ⟨a.ff.trans b.ff, b.fh, fun c o m h => b.hh c o m (a.hh c o m h), fun c m h n => b.nw c m (a.dm c h) (a.nw c m h n), fun c h => b.dm c (a.dm c h)⟩
theorem Gr.mono {M M' : Addr → Prop} {F H F1 H1 : Hp} (a : Gr M F H F1 H1) (m : ∀ b, M b → M' b) : Gr M' F H F1 H1 :=
  ⟨a.ff, a.fh, fun c o n h => a.hh c o (fun z => n (m c z)) h, fun c n h => a.nw c (fun z => n (m c z)) h, a.dm⟩
theorem Gr.up {M : Addr → Prop} {F H F1 H1 : Hp} (a : Gr M0 F H F1 H1) : Gr M F H F1 H1 := a.mono fun _ z => z.elim
theorem Gr.hx {F H F1 H1 : Hp} (a : Gr M0 F H F1 H1) : Ex H H1 := fun b o h => a.hh b o (fun z => z) h
/-- a new thing, frozen -/
theorem Gr.new {M : Addr → Prop} {F H : Hp} {p : Addr} {o : HO} (e : Ex F H) (h : H p = none) : Gr M F H (upd F p o) (upd H p o) where
  ff := Ex.new (e.free h)
  fh := e.both
  hh := fun b u _ q => Ex.new h b u q
  nw := fun b _ q n => by
    by_cases z : b = p
    · subst z; exact absurd h q
    · rw [upd_ne z]; exact n
  dm := fun b q => by
    by_cases z : b = p
    · subst z; rw [upd_same]; exact fun x => nomatch x
    · rw [upd_ne z]; exact q
/-- a new thing that may change -/
theorem Gr.loc {M : Addr → Prop} {F H : Hp} {p : Addr} {o : HO} (e : Ex F H) (h : H p = none) : Gr M F H F (upd H p o) where
  ff := Ex.refl F
  fh := e.mut (e.free h)
  hh := fun b u _ q => Ex.new h b u q
  nw := fun b _ q n => n
  dm := fun b q => by
    by_cases z : b = p
    · subst z; rw [upd_same]; exact fun x => nomatch x
    · rw [upd_ne z]; exact q
/-- a change of what stands outside of F -/
theorem Gr.set {M : Addr → Prop} {F H : Hp} {p : Addr} {o : HO} (e : Ex F H) (h : F p = none) (m : M p) : Gr M F H F (upd H p o) where
  ff := Ex.refl F
  fh := e.mut h
  hh := fun b u n q => by
    have z : b ≠ p := fun z => n (z ▸ m)
    rw [upd_ne z]; exact q
  nw := fun b _ q n => n
  dm := fun b q => by
    by_cases z : b = p
    · subst z; rw [upd_same]; exact fun x => nomatch x
    · rw [upd_ne z]; exact q
/-- behind an entry (F₀, H₀), a change of what is younger -/
theorem Gr.set' {M : Addr → Prop} {F0 H0 F H : Hp} {p : Addr} {o : HO} (g : Gr M F0 H0 F H) (h : F p = none) (n : H0 p = none ∨ M p) : Gr M F0 H0 F (upd H p o) where
  ff := g.ff
  fh := g.fh.mut h
  hh := fun b u m q => by
    have z : b ≠ p := fun z => by
      subst z
      rcases n with n | n
      · rw [n] at q; cases q
      · exact m n
    rw [upd_ne z]; exact g.hh b u m q
  nw := g.nw
  dm := fun b q => by
    by_cases z : b = p
    · subst z; rw [upd_same]; exact fun x => nomatch x
    · rw [upd_ne z]; exact g.dm b q
/-- a thing that may change is frozen from here on -/
theorem Gr.frz {M : Addr → Prop} {F0 H0 F H : Hp} {p : Addr} {o : HO} (g : Gr M F0 H0 F H) (h : H p = some o) (n : F0 p = none) (n2 : H0 p = none ∨ M p) : Gr M F0 H0 (upd F p o) H where
  ff := fun b u q => by
    rw [upd_ne (ne_of_none q n)]; exact g.ff b u q
  fh := fun b u q => by
    by_cases z : b = p
    · subst z; rw [upd_same] at q; cases q; exact h
    · rw [upd_ne z] at q; exact g.fh b u q
  hh := g.hh
  nw := fun b w q m => by
    have z : b ≠ p := fun z => by
      subst z
      rcases n2 with n2 | n2
      · exact q n2
      · exact w n2
    rw [upd_ne z]; exact g.nw b w q m
  dm := g.dm
theorem Gr.nn {F H F' H' : Hp} {p : Addr} {o : HO} (g : Gr M0 F H F' H') (h : H p = some o) (n : F p = none) : F' p = none := g.nw p (fun z => z) (by rw [h]; exact fun z => nomatch z) n
theorem Ex.frz {F H : Hp} {p : Addr} {o : HO} (e : Ex F H) (h : H p = some o) (n : F p = none) : Ex F (upd F p o) := fun b u q => by
  rw [upd_ne (ne_of_none q n)]; exact q

/-! ### what a value stands for -/
abbrev Rp (α : Type) := Hp → V → α → Prop
class Mn {α : Type} (R : Rp α) : Prop where
  mono : ∀ {H H' : Hp} {v : V} {x : α}, Ex H H' → R H v x → R H' v x
def rInt : Rp Int := fun _ v i => v = .int i
def rNat : Rp Nat := fun _ v i => v = .int (i : Int)
def rBl : Rp Bool := fun _ v i => v = .bl i
def rStr : Rp Str := fun _ v i => v = .str i
def rNon : Rp Unit := fun _ v _ => v = .non
def rLst {α : Type} (R : Rp α) : Rp (List α) := fun H v xs => ∃ a vs, v = .ref a ∧ H a = some (.lst vs) ∧ Paired (R H) vs xs
def rTup {α : Type} (R : Rp α) : Rp (List α) := fun H v xs => ∃ a vs, v = .ref a ∧ H a = some (.tup vs) ∧ Paired (R H) vs xs
def rPr {α β : Type} (R : Rp α) (S : Rp β) : Rp (α × β) := fun H v p => ∃ a x y, v = .ref a ∧ H a = some (.tup [x, y]) ∧ R H x p.1 ∧ S H y p.2
def rOpt {α : Type} (R : Rp α) : Rp (Option α) := fun H v x => match x with
  | none => v = .non
  | some y => R H v y
instance : Mn rInt := ⟨fun _ h => h⟩
instance : Mn rNat := ⟨fun _ h => h⟩
instance : Mn rBl := ⟨fun _ h => h⟩
instance : Mn rStr := ⟨fun _ h => h⟩
instance : Mn rNon := ⟨fun _ h => h⟩
theorem Paired.up {α : Type} {R : Rp α} [m : Mn R] {H H' : Hp} (e : Ex H H') {vs : List V} {xs : List α} (h : Paired (R H) vs xs) : Paired (R H') vs xs := L2.Paired.mapP h fun _ _ q => m.mono e q
instance {α : Type} {R : Rp α} [Mn R] : Mn (rLst R) := ⟨fun e ⟨a, vs, h1, h2, h3⟩ => ⟨a, vs, h1, e _ _ h2, Paired.up e h3⟩⟩
instance {α : Type} {R : Rp α} [Mn R] : Mn (rTup R) := ⟨fun e ⟨a, vs, h1, h2, h3⟩ => ⟨a, vs, h1, e _ _ h2, Paired.up e h3⟩⟩
instance {α β : Type} {R : Rp α} {S : Rp β} [m : Mn R] [n : Mn S] : Mn (rPr R S) := ⟨fun e ⟨a, x, y, h1, h2, h3, h4⟩ => ⟨a, x, y, h1, e _ _ h2, m.mono e h3, n.mono e h4⟩⟩
instance {α : Type} {R : Rp α} [m : Mn R] : Mn (rOpt R) := ⟨fun {H H' v x} e h => by
  cases x with
  | none => exact h
  | some y => exact m.mono e h⟩
theorem Paired.get {α β : Type} {F : α → β → Prop} : ∀ {as : List α} {bs : List β} {i : Nat} {b : β}, Paired F as bs → bs[i]? = some b → ∃ a, as[i]? = some a ∧ F a b
  | _, _, _, _, .nil, e => by simp at e
  | _, _, 0, _, .cons r _, e => by simp at e; subst e; exact ⟨_, rfl, r⟩
  | _, _, i + 1, _, .cons _ t, e => by
    obtain ⟨a, h1, h2⟩ := Paired.get t (i := i) (by simpa using e)
    exact ⟨a, by simpa using h1, h2⟩
theorem Paired.getL {α β : Type} {F : α → β → Prop} : ∀ {as : List α} {bs : List β} {i : Nat} {a : α}, Paired F as bs → as[i]? = some a → ∃ b, bs[i]? = some b ∧ F a b
  | _, _, _, _, .nil, e => by simp at e
  | _, _, 0, _, .cons r _, e => by simp at e; subst e; exact ⟨_, rfl, r⟩
  | _, _, i + 1, _, .cons _ t, e => by
    obtain ⟨a, h1, h2⟩ := Paired.getL t (i := i) (by simpa using e)
    exact ⟨a, by simpa using h1, h2⟩
theorem Paired.app {α β : Type} {F : α → β → Prop} : ∀ {as cs : List α} {bs ds : List β}, Paired F as bs → Paired F cs ds → Paired F (as ++ cs) (bs ++ ds)
  | _, _, _, _, .nil, h => h
  | _, _, _, _, .cons r t, h => .cons r (Paired.app t h)
theorem Paired.take {α β : Type} {F : α → β → Prop} : ∀ {as : List α} {bs : List β} (n : Nat), Paired F as bs → Paired F (as.take n) (bs.take n)
  | _, _, 0, _ => .nil
  | _, _, _ + 1, .nil => .nil
  | _, _, n + 1, .cons r t => .cons r (Paired.take n t)
theorem Paired.drop {α β : Type} {F : α → β → Prop} : ∀ {as : List α} {bs : List β} (n : Nat), Paired F as bs → Paired F (as.drop n) (bs.drop n)
  | _, _, 0, h => h
  | _, _, _ + 1, .nil => .nil
  | _, _, n + 1, .cons r t => Paired.drop n t
theorem Paired.rev {α β : Type} {F : α → β → Prop} : ∀ {as : List α} {bs : List β}, Paired F as bs → Paired F as.reverse bs.reverse
  | _, _, .nil => .nil
  | _, _, .cons r t => by
    rw [List.reverse_cons, List.reverse_cons]
    exact Paired.app (Paired.rev t) (.cons r .nil)
theorem Paired.set {α β : Type} {F : α → β → Prop} {a : α} {b : β} (r : F a b) : ∀ {as : List α} {bs : List β} (n : Nat), Paired F as bs → Paired F (as.set n a) (bs.set n b)
  | _, _, _, .nil => .nil
  | _, _, 0, .cons _ t => .cons r t
  | _, _, n + 1, .cons q t => .cons q (Paired.set r n t)
/-- ints as they stand -/
theorem ints_paired {H : Hp} : ∀ {vs : List V} {ns : List Int}, Paired (rInt H) vs ns → vs = ns.map V.int
  | _, _, .nil => rfl
  | _, _, .cons r t => by rw [List.map_cons, ints_paired t, show _ = _ from r]
theorem paired_ints {H : Hp} : ∀ ns : List Int, Paired (rInt H) (ns.map V.int) ns
  | [] => .nil
  | n :: ns => .cons rfl (paired_ints ns)
theorem nats_paired {H : Hp} : ∀ {vs : List V} {ns : List Nat}, Paired (rNat H) vs ns → vs = (ns.map fun n : Nat => (n : Int)).map V.int
  | _, _, .nil => rfl
  | _, _, .cons r t => by rw [List.map_cons, List.map_cons, ← nats_paired t, show _ = _ from r]
theorem bls_paired {H : Hp} : ∀ {vs : List V} {ns : List Bool}, Paired (rBl H) vs ns → vs = ns.map V.bl
  | _, _, .nil => rfl
  | _, _, .cons r t => by rw [List.map_cons, ← bls_paired t, show _ = _ from r]
theorem strs_paired {H : Hp} : ∀ {vs : List V} {ns : List Str}, Paired (rStr H) vs ns → vs = ns.map V.str
  | _, _, .nil => rfl
  | _, _, .cons r t => by rw [List.map_cons, ← strs_paired t, show _ = _ from r]

/-! ### what evaluates to what -/
def Ev {α : Type} (R : Rp α) (te : TE) (σ : St) (F H : Hp) (x : α) : Prop :=
  ∀ F1 H1, Gr M0 F H F1 H1 → ∀ Q : VK, (∀ v F2 H2, Gr M0 F1 H1 F2 H2 → R F2 v x → Q v H2) → te σ H1 Q
def EvT (tt : TT) (σ : St) (F H : Hp) (b : Bool) : Prop :=
  ∀ F1 H1, Gr M0 F H F1 H1 → ∀ Q : Bool → Hp → Prop, (∀ F2 H2, Gr M0 F1 H1 F2 H2 → Q b H2) → tt σ H1 Q
def EvA (ta : TA) (σ : St) (F H : Hp) (P : Hp → List V → Prop) : Prop :=
  ∀ F1 H1, Gr M0 F H F1 H1 → ∀ Q : List V → Hp → Prop, (∀ vs F2 H2, Gr M0 F1 H1 F2 H2 → P F2 vs → Q vs H2) → ta σ H1 Q
section
variable {K : PySem.W.Frag} {σ : St} {F H F' H' : Hp} {ta tb tc te : TE} {t u : TT} {α β γ δ ε : Type} {R : Rp α} {S : Rp β} {T : Rp γ} {x : α} {y : β} {z : γ}
theorem Ev.mono (g : Gr M0 F H F' H') (h : Ev R te σ F H x) : Ev R te σ F' H' x := fun F1 H1 g1 Q q => h F1 H1 (g.trans g1) Q q
theorem EvT.mono {b : Bool} (g : Gr M0 F H F' H') (h : EvT t σ F H b) : EvT t σ F' H' b := fun F1 H1 g1 Q q => h F1 H1 (g.trans g1) Q q
theorem Ev.is {x' : α} (h : Ev R te σ F H x) (e : x = x') : Ev R te σ F H x' := e ▸ h
theorem EvT.is {b b' : Bool} (h : EvT t σ F H b) (e : b = b') : EvT t σ F H b' := e ▸ h
/-- another reading of the value -/
theorem Ev.as (h : Ev R te σ F H x) (c : ∀ F v, R F v x → S F v y) : Ev S te σ F H y := fun F1 H1 g Q q => h F1 H1 g Q fun v F2 H2 g2 r => q v F2 H2 g2 (c F2 v r)
theorem Ev.nat {n : Nat} (h : Ev rNat te σ F H n) : Ev rInt te σ F H (n : Int) := h
theorem Ev.toNat {n : Nat} (h : Ev rInt te σ F H (n : Int)) : Ev rNat te σ F H n := h
theorem ev_var {i : Nat} {v : V} (h : σ[i]? = some (some v)) (r : R F v x) (m : Mn R := by infer_instance) : Ev R (tVar i) σ F H x := fun F1 H1 g Q q => ⟨v, h, q v F1 H1 (.refl g.fh) (m.mono g.ff r)⟩
theorem ev_int {i : Int} : Ev rInt (tC (.int i)) σ F H i := fun F1 H1 g Q q => q _ F1 H1 (.refl g.fh) rfl
theorem ev_bl {i : Bool} : Ev rBl (tC (.bl i)) σ F H i := fun F1 H1 g Q q => q _ F1 H1 (.refl g.fh) rfl
theorem ev_str {i : Str} : Ev rStr (tC (.str i)) σ F H i := fun F1 H1 g Q q => q _ F1 H1 (.refl g.fh) rfl
theorem ev_non : Ev rNon (tC .non) σ F H () := fun F1 H1 g Q q => q _ F1 H1 (.refl g.fh) rfl
theorem ev_noneO : Ev (rOpt R) (tC .non) σ F H none := fun F1 H1 g Q q => q _ F1 H1 (.refl g.fh) rfl
theorem ev_someO (h : Ev R te σ F H x) : Ev (rOpt R) te σ F H (some x) := h
/-- operators of two ints -/
theorem ev_I0 {g : Int → Int → V} {i j : Int} (ha : Ev rInt ta σ F H i) (hb : Ev rInt tb σ F H j) (hz : ∀ F, R F (g i j) x) : Ev R (tOp (rI0 g) ta tb) σ F H x := fun F1 H1 g1 Q q =>
  ha F1 H1 g1 _ fun v F2 H2 g2 r => hb F2 H2 (g1.trans g2) _ fun w F3 H3 g3 r2 => ⟨i, j, r, r2, q _ F3 H3 (g2.trans g3) (hz F3)⟩
theorem ev_I {C : Int → Int → Prop} {g : Int → Int → V} {i j : Int} (ha : Ev rInt ta σ F H i) (hb : Ev rInt tb σ F H j) (hc : C i j) (hz : ∀ F, R F (g i j) x) : Ev R (tOp (rI C g) ta tb) σ F H x := fun F1 H1 g1 Q q =>
  ha F1 H1 g1 _ fun v F2 H2 g2 r => hb F2 H2 (g1.trans g2) _ fun w F3 H3 g3 r2 => ⟨i, j, r, r2, hc, q _ F3 H3 (g2.trans g3) (hz F3)⟩
variable {i j : Int}
theorem ev_add (ha : Ev rInt ta σ F H i) (hb : Ev rInt tb σ F H j) : Ev rInt (tOp (rI0 fun i j => .int (i + j)) ta tb) σ F H (i + j) := ev_I0 ha hb fun _ => rfl
theorem ev_sub (ha : Ev rInt ta σ F H i) (hb : Ev rInt tb σ F H j) : Ev rInt (tOp (rI0 fun i j => .int (i - j)) ta tb) σ F H (i - j) := ev_I0 ha hb fun _ => rfl
theorem ev_mul (ha : Ev rInt ta σ F H i) (hb : Ev rInt tb σ F H j) (hc : CMul i j) : Ev rInt (tOp (rI CMul fun i j => .int (i * j)) ta tb) σ F H (i * j) := ev_I ha hb hc fun _ => rfl
theorem ev_mulW (ha : Ev rInt ta σ F H i) (hb : Ev rInt tb σ F H j) (hc : CMulW i j) : Ev rInt (tOp (rI CMulW fun i j => .int (i * j)) ta tb) σ F H (i * j) := ev_I ha hb hc fun _ => rfl
theorem ev_fdiv (ha : Ev rInt ta σ F H i) (hb : Ev rInt tb σ F H j) (hc : CDiv i j) : Ev rInt (tOp (rI CDiv fun i j => .int (i / j)) ta tb) σ F H (i / j) := ev_I ha hb hc fun _ => rfl
theorem ev_mod (ha : Ev rInt ta σ F H i) (hb : Ev rInt tb σ F H j) (hc : 0 < j) : Ev rInt (tOp (rI (fun _ j => 0 < j) fun i j => .int (i % j)) ta tb) σ F H (i % j) := ev_I ha hb hc fun _ => rfl
theorem ev_pow (ha : Ev rInt ta σ F H i) (hb : Ev rInt tb σ F H j) (hc : CPow i j) : Ev rInt (tOp (rI CPow fun i j => .int (i ^ j.toNat)) ta tb) σ F H (i ^ j.toNat) := ev_I ha hb hc fun _ => rfl
theorem ev_lt (ha : Ev rInt ta σ F H i) (hb : Ev rInt tb σ F H j) : Ev rBl (tOp (rI0 fun i j => .bl (decide (i < j))) ta tb) σ F H (decide (i < j)) := ev_I0 ha hb fun _ => rfl
theorem ev_le (ha : Ev rInt ta σ F H i) (hb : Ev rInt tb σ F H j) : Ev rBl (tOp (rI0 fun i j => .bl (decide (i ≤ j))) ta tb) σ F H (decide (i ≤ j)) := ev_I0 ha hb fun _ => rfl
theorem ev_gt (ha : Ev rInt ta σ F H i) (hb : Ev rInt tb σ F H j) : Ev rBl (tOp (rI0 fun i j => .bl (decide (j < i))) ta tb) σ F H (decide (j < i)) := ev_I0 ha hb fun _ => rfl
theorem ev_ge (ha : Ev rInt ta σ F H i) (hb : Ev rInt tb σ F H j) : Ev rBl (tOp (rI0 fun i j => .bl (decide (j ≤ i))) ta tb) σ F H (decide (j ≤ i)) := ev_I0 ha hb fun _ => rfl
theorem ev_neg (ha : Ev rInt ta σ F H i) : Ev rInt (tUn (rU fun i => .int (-i)) ta) σ F H (-i) := fun F1 H1 g1 Q q => ha F1 H1 g1 _ fun v F2 H2 g2 r => ⟨i, r, q _ F2 H2 g2 rfl⟩
theorem ev_eqI (ha : Ev rInt ta σ F H i) (hb : Ev rInt tb σ F H j) : Ev rBl (tOp rEq ta tb) σ F H (decide (i = j)) := fun F1 H1 g1 Q q =>
  ha F1 H1 g1 _ fun v F2 H2 g2 r => hb F2 H2 (g1.trans g2) _ fun w F3 H3 g3 r2 => by
    cases (show v = V.int i from r)
    cases (show w = V.int j from r2)
    refine ⟨rfl, ?_⟩
    have e : decide (V.int i = V.int j) = decide (i = j) := by simp
    rw [e]
    exact q _ F3 H3 (g2.trans g3) rfl
theorem ev_neI (ha : Ev rInt ta σ F H i) (hb : Ev rInt tb σ F H j) : Ev rBl (tOp rNe ta tb) σ F H (!decide (i = j)) := fun F1 H1 g1 Q q =>
  ha F1 H1 g1 _ fun v F2 H2 g2 r => hb F2 H2 (g1.trans g2) _ fun w F3 H3 g3 r2 => by
    cases (show v = V.int i from r)
    cases (show w = V.int j from r2)
    refine ⟨rfl, ?_⟩
    have e : decide (V.int i = V.int j) = decide (i = j) := by simp
    rw [e]
    exact q _ F3 H3 (g2.trans g3) rfl
theorem ev_eqS {a b : Str} (ha : Ev rStr ta σ F H a) (hb : Ev rStr tb σ F H b) : Ev rBl (tOp rEq ta tb) σ F H (decide (a = b)) := fun F1 H1 g1 Q q =>
  ha F1 H1 g1 _ fun v F2 H2 g2 r => hb F2 H2 (g1.trans g2) _ fun w F3 H3 g3 r2 => by
    cases (show v = V.str a from r)
    cases (show w = V.str b from r2)
    refine ⟨rfl, ?_⟩
    have e : decide (V.str a = V.str b) = decide (a = b) := by simp
    rw [e]
    exact q _ F3 H3 (g2.trans g3) rfl
theorem ev_neS {a b : Str} (ha : Ev rStr ta σ F H a) (hb : Ev rStr tb σ F H b) : Ev rBl (tOp rNe ta tb) σ F H (!decide (a = b)) := fun F1 H1 g1 Q q =>
  ha F1 H1 g1 _ fun v F2 H2 g2 r => hb F2 H2 (g1.trans g2) _ fun w F3 H3 g3 r2 => by
    cases (show v = V.str a from r)
    cases (show w = V.str b from r2)
    refine ⟨rfl, ?_⟩
    have e : decide (V.str a = V.str b) = decide (a = b) := by simp
    rw [e]
    exact q _ F3 H3 (g2.trans g3) rfl
/-- is None -/
def rIsN : R2 := fun x y H Q => y = .non ∧ Q (.bl (decide (x = .non))) H
def rNotN : R2 := fun x y H Q => y = .non ∧ Q (.bl (!decide (x = .non))) H
theorem op_isN1 {X : Cx} : OpR X (compareOp .Is) rIsN := op_isN
theorem op_notN1 {X : Cx} : OpR X (compareOp .IsNot) rNotN := op_notN
class NotN {α : Type} (R : Rp α) : Prop where
  nn : ∀ {F v x}, R F v x → v ≠ .non
instance : NotN rInt := ⟨fun h e => by rw [show _ = _ from h] at e; cases e⟩
instance : NotN rNat := ⟨fun h e => by rw [show _ = _ from h] at e; cases e⟩
instance : NotN rStr := ⟨fun h e => by rw [show _ = _ from h] at e; cases e⟩
instance : NotN rBl := ⟨fun h e => by rw [show _ = _ from h] at e; cases e⟩
instance {α : Type} {R : Rp α} : NotN (rLst R) := ⟨fun ⟨_, _, h, _⟩ e => by rw [h] at e; cases e⟩
instance {α : Type} {R : Rp α} : NotN (rTup R) := ⟨fun ⟨_, _, h, _⟩ e => by rw [h] at e; cases e⟩
instance {α β : Type} {R : Rp α} {S : Rp β} : NotN (rPr R S) := ⟨fun ⟨_, _, _, h, _⟩ e => by rw [h] at e; cases e⟩
theorem opt_isNone {R : Rp α} [n : NotN R] {v : V} {x : Option α} (h : rOpt R F v x) : decide (v = .non) = x.isNone := by
  cases x with
  | none => exact decide_eq_true h
  | some y => exact decide_eq_false (n.nn h)
theorem ev_isN {x : Option α} (ha : Ev (rOpt R) ta σ F H x) (n : NotN R := by infer_instance) : Ev rBl (tOp rIsN ta (tC .non)) σ F H x.isNone := fun F1 H1 g1 Q q =>
  ha F1 H1 g1 _ fun v F2 H2 g2 r => ⟨rfl, by rw [opt_isNone r]; exact q _ F2 H2 g2 rfl⟩
theorem ev_notN {x : Option α} (ha : Ev (rOpt R) ta σ F H x) (n : NotN R := by infer_instance) : Ev rBl (tOp rNotN ta (tC .non)) σ F H x.isSome := fun F1 H1 g1 Q q =>
  ha F1 H1 g1 _ fun v F2 H2 g2 r => ⟨rfl, by rw [opt_isNone r]; exact q _ F2 H2 g2 (by cases x <;> rfl)⟩
/-! tests -/
theorem et_test {b : Bool} (h : Ev rBl te σ F H b) : EvT (tTest te) σ F H b := fun F1 H1 g Q q => h F1 H1 g _ fun v F2 H2 g2 r => ⟨b, r, q F2 H2 g2⟩
theorem et_B {b : Bool} (h : Ev rBl te σ F H b) : EvT (tB te) σ F H b := fun F1 H1 g Q q => h F1 H1 g _ fun v F2 H2 g2 r => ⟨b, r, q F2 H2 g2⟩
theorem et_and {a b : Bool} (h1 : EvT t σ F H a) (h2 : a = true → EvT u σ F H b) : EvT (tAnd t u) σ F H (a && b) := fun F1 H1 g Q q => h1 F1 H1 g _ fun F2 H2 g2 => by
  cases a with
  | true => exact h2 rfl F2 H2 (g.trans g2) Q fun F3 H3 g3 => q F3 H3 (g2.trans g3)
  | false => exact q F2 H2 g2
theorem et_or {a b : Bool} (h1 : EvT t σ F H a) (h2 : a = false → EvT u σ F H b) : EvT (tOr t u) σ F H (a || b) := fun F1 H1 g Q q => h1 F1 H1 g _ fun F2 H2 g2 => by
  cases a with
  | true => exact q F2 H2 g2
  | false => exact h2 rfl F2 H2 (g.trans g2) Q fun F3 H3 g3 => q F3 H3 (g2.trans g3)
theorem et_not {a : Bool} (h1 : EvT t σ F H a) : EvT (tNot t) σ F H (!a) := fun F1 H1 g Q q => h1 F1 H1 g _ fun F2 H2 g2 => q F2 H2 g2
theorem ev_andV {a b : Bool} (h1 : Ev rBl ta σ F H a) (h2 : a = true → Ev rBl tb σ F H b) : Ev rBl (tAndV ta tb) σ F H (a && b) := fun F1 H1 g Q q => h1 F1 H1 g _ fun v F2 H2 g2 r => ⟨a, r, by
  cases a with
  | true => exact h2 rfl F2 H2 (g.trans g2) Q fun w F3 H3 g3 => q w F3 H3 (g2.trans g3)
  | false => exact q _ F2 H2 g2 rfl⟩
theorem ev_orV {a b : Bool} (h1 : Ev rBl ta σ F H a) (h2 : a = false → Ev rBl tb σ F H b) : Ev rBl (tOrV ta tb) σ F H (a || b) := fun F1 H1 g Q q => h1 F1 H1 g _ fun v F2 H2 g2 r => ⟨a, r, by
  cases a with
  | true => exact q _ F2 H2 g2 rfl
  | false => exact h2 rfl F2 H2 (g.trans g2) Q fun w F3 H3 g3 => q w F3 H3 (g2.trans g3)⟩
theorem ev_notV {a : Bool} (h1 : Ev rBl ta σ F H a) : Ev rBl (tNotV ta) σ F H (!a) := fun F1 H1 g Q q => h1 F1 H1 g _ fun v F2 H2 g2 r => ⟨a, r, q _ F2 H2 g2 rfl⟩
theorem ev_if {b : Bool} {x1 x2 : α} (h : EvT t σ F H b) (h1 : b = true → Ev R ta σ F H x1) (h2 : b = false → Ev R tb σ F H x2) : Ev R (tIf t ta tb) σ F H (if b = true then x1 else x2) := fun F1 H1 g Q q => h F1 H1 g _ fun F2 H2 g2 => by
  cases b with
  | true => exact h1 rfl F2 H2 (g.trans g2) Q fun w F3 H3 g3 r => q w F3 H3 (g2.trans g3) (by simpa using r)
  | false => exact h2 rfl F2 H2 (g.trans g2) Q fun w F3 H3 g3 r => q w F3 H3 (g2.trans g3) (by simpa using r)
theorem ev_chain {i j k : Int} {p p' : Int → Int → Bool} (ha : Ev rInt ta σ F H i) (hb : Ev rInt tb σ F H j) (hc : Ev rInt tc σ F H k) :
    Ev rBl (tChain (rI0 fun i j => .bl (p i j)) (rI0 fun i j => .bl (p' i j)) ta tb tc) σ F H (p i j && p' j k) := fun F1 H1 g1 Q q =>
  ha F1 H1 g1 _ fun v F2 H2 g2 r => hb F2 H2 (g1.trans g2) _ fun w F3 H3 g3 r2 => ⟨i, j, r, r2, p i j, rfl, by
    cases e : p i j with
    | true => exact hc F3 H3 ((g1.trans g2).trans g3) _ fun w2 F4 H4 g4 r3 => ⟨j, k, r2, r3, q _ F4 H4 ((g2.trans g3).trans g4) (by rw [e, Bool.true_and]; rfl)⟩
    | false => exact q _ F3 H3 (g2.trans g3) (by rw [e, Bool.false_and]; rfl)⟩
/-! arguments -/
theorem ea_nil : EvA tNil σ F H (fun _ vs => vs = []) := fun F1 H1 g Q q => q _ F1 H1 (.refl g.fh) rfl
theorem ea_cons {tr : TA} {P : Hp → List V → Prop} (h : Ev R te σ F H x) (hr : EvA tr σ F H P) (m : Mn R := by infer_instance) : EvA (tCons te tr) σ F H (fun F vs => ∃ v ws, vs = v :: ws ∧ R F v x ∧ P F ws) := fun F1 H1 g Q q =>
  h F1 H1 g _ fun v F2 H2 g2 r => hr F2 H2 (g.trans g2) _ fun ws F3 H3 g3 p => q _ F3 H3 (g2.trans g3) ⟨v, ws, rfl, m.mono g3.ff r, p⟩
end
end El

set_option Elab.async false
set_option linter.all false
set_option maxRecDepth 100000
set_option maxHeartbeats 2000000
namespace El
open PySem PySem.Spec L2
/-- a reference as it stands -/
def rRef : Rp Addr := fun _ v a => v = .ref a
def rTy : Rp String := fun _ v a => v = .ty a
instance : Mn rRef := ⟨fun _ h => h⟩
instance : Mn rTy := ⟨fun _ h => h⟩
section
variable {K : PySem.W.Frag} {σ : St} {F H F' H' : Hp} {ta tb tc te : TE} {t u : TT} {α β γ δ ε : Type} {R : Rp α} {S : Rp β} {T : Rp γ} {x : α} {y : β} {z : γ} {xs : List α} {i j : Int}
theorem ev_ref {a : Addr} : Ev rRef (tC (.ref a)) σ F H a := fun F1 H1 g Q q => q _ F1 H1 (.refl g.fh) rfl
theorem ev_ty {n : String} : Ev rTy (tC (.ty n)) σ F H n := fun F1 H1 g Q q => q _ F1 H1 (.refl g.fh) rfl

/-! ### index, slice, length -/
theorem atI_paired {f : V → α → Prop} {vs : List V} {xs : List α} {i : Int} {x : α} (p : Paired f vs xs) (h : atI xs i = some x) : ∃ v, atI vs i = some v ∧ f v x := by
  unfold atI at h ⊢
  rw [p.length]
  cases e : ixN xs.length i with
  | none => rw [e] at h; cases h
  | some j =>
    rw [e] at h
    exact El.Paired.get p h
theorem atI_natL {xs : List α} {n : Nat} {x : α} (h : xs[n]? = some x) : atI xs (n : Int) = some x := by
  have hl : n < xs.length := (List.getElem?_eq_some_iff.mp h).1
  unfold atI ixN
  rw [if_pos (by omega), if_pos (by omega)]
  exact h
theorem ev_ixL (ha : Ev (rLst R) ta σ F H xs) (hb : Ev rInt tb σ F H i) (h : atI xs i = some x) (m : Mn R := by infer_instance) : Ev R (tOp (rIxL K) ta tb) σ F H x := fun F1 H1 g1 Q q =>
  ha F1 H1 g1 _ fun v F2 H2 g2 ⟨a, vs, e, hl, p⟩ => hb F2 H2 (g1.trans g2) _ fun w F3 H3 g3 r2 => by
    obtain ⟨y, hy, ry⟩ := atI_paired p h
    exact ⟨a, vs, i, y, e, r2, SqL.of (g3.fh _ _ (g3.ff _ _ hl)), hy, q y F3 H3 (g2.trans g3) (m.mono g3.ff ry)⟩
theorem ev_ixT (ha : Ev (rTup R) ta σ F H xs) (hb : Ev rInt tb σ F H i) (h : atI xs i = some x) (m : Mn R := by infer_instance) : Ev R (tOp (rIxT K) ta tb) σ F H x := fun F1 H1 g1 Q q =>
  ha F1 H1 g1 _ fun v F2 H2 g2 ⟨a, vs, e, hl, p⟩ => hb F2 H2 (g1.trans g2) _ fun w F3 H3 g3 r2 => by
    obtain ⟨y, hy, ry⟩ := atI_paired p h
    exact ⟨a, vs, i, y, e, r2, SqT.of (g3.fh _ _ (g3.ff _ _ hl)), hy, q y F3 H3 (g2.trans g3) (m.mono g3.ff ry)⟩
theorem ev_fst {p : α × β} (ha : Ev (rPr R S) ta σ F H p) (m : Mn R := by infer_instance) : Ev R (tOp (rIxT K) ta (tC (.int 0))) σ F H p.1 := fun F1 H1 g1 Q q =>
  ha F1 H1 g1 _ fun v F2 H2 g2 ⟨a, u, w, e, hl, r1, r2⟩ => ⟨a, [u, w], 0, u, e, rfl, SqT.of (g2.fh _ _ hl), rfl, q u F2 H2 g2 r1⟩
theorem ev_snd {p : α × β} (ha : Ev (rPr R S) ta σ F H p) (m : Mn S := by infer_instance) : Ev S (tOp (rIxT K) ta (tC (.int 1))) σ F H p.2 := fun F1 H1 g1 Q q =>
  ha F1 H1 g1 _ fun v F2 H2 g2 ⟨a, u, w, e, hl, r1, r2⟩ => ⟨a, [u, w], 1, w, e, rfl, SqT.of (g2.fh _ _ hl), rfl, q w F2 H2 g2 r2⟩
/-- a list that may change, as it stands -/
theorem ev_ixM {a : Addr} {vs : List V} {v : V} (ha : Ev rRef ta σ F H a) (hb : Ev rInt tb σ F H i) (hl : H a = some (.lst vs)) (h : atI vs i = some v) (r : R F v x) (m : Mn R := by infer_instance) : Ev R (tOp (rIxL K) ta tb) σ F H x := fun F1 H1 g1 Q q =>
  ha F1 H1 g1 _ fun w F2 H2 g2 e => hb F2 H2 (g1.trans g2) _ fun w2 F3 H3 g3 r2 =>
    ⟨a, vs, i, v, e, r2, SqL.of (g3.hx _ _ (g2.hx _ _ (g1.hx _ _ hl))), h, q v F3 H3 (g2.trans g3) (m.mono ((g1.ff.trans g2.ff).trans g3.ff) r)⟩
def cut (xs : List α) (lo hi : Option Int) : List α := (xs.drop (HT.sIx xs.length 0 lo)).take (HT.sIx xs.length xs.length hi - HT.sIx xs.length 0 lo)
theorem cut_paired {f : V → α → Prop} {vs : List V} {xs : List α} {lo hi : Option Int} (p : Paired f vs xs) : Paired f (cutV vs lo hi) (cut xs lo hi) := by
  unfold cutV cut
  rw [p.length]
  exact Paired.take _ (Paired.drop _ p)
theorem cut_to {n : Nat} : cut xs none (some (n : Int)) = xs.take n := by
  unfold cut
  rw [HT.sIx_none, HT.sIx_nat, List.drop_zero, Nat.sub_zero]
  by_cases h : n ≤ xs.length
  · rw [Nat.min_eq_left h]
  · rw [Nat.min_eq_right (by omega), List.take_of_length_le (Nat.le_refl _), List.take_of_length_le (by omega)]
theorem cut_from {n : Nat} : cut xs (some (n : Int)) none = xs.drop n := by
  unfold cut
  rw [HT.sIx_none, HT.sIx_nat]
  by_cases h : n ≤ xs.length
  · rw [Nat.min_eq_left h]
    exact List.take_of_length_le (by rw [List.length_drop]; exact Nat.le_refl _)
  · rw [Nat.min_eq_right (by omega), List.drop_of_length_le (Nat.le_refl _), List.drop_of_length_le (by omega), List.take_nil]
theorem cut_mid {n k : Nat} (h : n ≤ k) : cut xs (some (n : Int)) (some (k : Int)) = (xs.drop n).take (k - n) := by
  unfold cut
  rw [HT.sIx_nat, HT.sIx_nat]
  by_cases h1 : n ≤ xs.length
  · rw [Nat.min_eq_left h1]
    by_cases h2 : k ≤ xs.length
    · rw [Nat.min_eq_left h2]
    · rw [Nat.min_eq_right (by omega), List.take_of_length_le (by rw [List.length_drop]; exact Nat.le_refl _), List.take_of_length_le (by rw [List.length_drop]; omega)]
  · rw [show min n xs.length = xs.length by omega, List.drop_of_length_le (Nat.le_refl _), List.drop_of_length_le (show xs.length ≤ n by omega), List.take_nil, List.take_nil]
def EvO (to : TO) (σ : St) (F H : Hp) (o : Option Int) : Prop :=
  ∀ F1 H1, Gr M0 F H F1 H1 → ∀ Q : Option Int → Hp → Prop, (∀ F2 H2, Gr M0 F1 H1 F2 H2 → Q o H2) → to σ H1 Q
theorem eo_none : EvO tNoPart σ F H none := fun F1 H1 g Q q => q F1 H1 (.refl g.fh)
theorem eo_some (h : Ev rInt te σ F H i) : EvO (tPart te) σ F H (some i) := fun F1 H1 g Q q => h F1 H1 g _ fun v F2 H2 g2 r => ⟨i, r, q F2 H2 g2⟩
theorem ev_slL {tl th : TO} {lo hi : Option Int} (h : Ev (rLst R) te σ F H xs) (h1 : EvO tl σ F H lo) (h2 : EvO th σ F H hi) (m : Mn R := by infer_instance) : Ev (rLst R) (tSl (rSlL K) te tl th) σ F H (cut xs lo hi) := fun F1 H1 g1 Q q =>
  h F1 H1 g1 _ fun v F2 H2 g2 ⟨a, vs, e, hl, p⟩ => h1 F2 H2 (g1.trans g2) _ fun F3 H3 g3 => h2 F3 H3 ((g1.trans g2).trans g3) _ fun F4 H4 g4 =>
    ⟨a, vs, e, SqL.of (g4.fh _ _ (g4.ff _ _ (g3.ff _ _ hl))), fun D hD => by
      have g5 : Gr M0 F4 H4 (upd F4 D (.lst (cutV vs lo hi))) (upd H4 D (.lst (cutV vs lo hi))) := .new g4.fh hD
      exact q _ _ _ (((g2.trans g3).trans g4).trans g5) ⟨D, _, rfl, upd_same, Paired.up (((g3.ff).trans g4.ff).trans g5.ff) (cut_paired p)⟩⟩
abbrev rLenS (K : PySem.W.Frag) : List V → Hp → VK → Prop := fun xs H Q => ∃ p ys, xs = [.ref p] ∧ (SqL K H p ys ∨ SqT K H p ys) ∧ Q (.int ys.length) H
theorem ev_lenL (ha : Ev (rLst R) ta σ F H xs) : Ev rInt (tCB (rLenS K) (tCons ta tNil)) σ F H (xs.length : Int) := fun F1 H1 g1 Q q =>
  ha F1 H1 g1 _ fun v F2 H2 g2 ⟨a, vs, e, hl, p⟩ => ⟨a, vs, by rw [e], .inl (SqL.of (g2.fh _ _ hl)), q _ F2 H2 g2 (by rw [← p.length]; rfl)⟩
theorem ev_lenT (ha : Ev (rTup R) ta σ F H xs) : Ev rInt (tCB (rLenS K) (tCons ta tNil)) σ F H (xs.length : Int) := fun F1 H1 g1 Q q =>
  ha F1 H1 g1 _ fun v F2 H2 g2 ⟨a, vs, e, hl, p⟩ => ⟨a, vs, by rw [e], .inr (SqT.of (g2.fh _ _ hl)), q _ F2 H2 g2 (by rw [← p.length]; rfl)⟩
theorem ev_lenM {a : Addr} {vs : List V} (ha : Ev rRef ta σ F H a) (hl : H a = some (.lst vs)) : Ev rInt (tCB (rLenS K) (tCons ta tNil)) σ F H (vs.length : Int) := fun F1 H1 g1 Q q =>
  ha F1 H1 g1 _ fun v F2 H2 g2 e => ⟨a, vs, by rw [show v = _ from e], .inl (SqL.of (g2.hx _ _ (g1.hx _ _ hl))), q _ F2 H2 g2 rfl⟩
theorem ev_lenStr {s : Str} (hz : s.length ≤ sizeLine) (ha : Ev rStr ta σ F H s) : Ev rInt (tCB (fun xs H Q => ∃ z, xs = [.str z] ∧ z.length ≤ sizeLine ∧ Q (.int z.length) H) (tCons ta tNil)) σ F H (s.length : Int) := fun F1 H1 g1 Q q =>
  ha F1 H1 g1 _ fun v F2 H2 g2 e => ⟨s, by rw [show v = _ from e], hz, q _ F2 H2 g2 rfl⟩

/-! ### displays, list(..), tuple(..) -/
def EvL {α : Type} (R : Rp α) (ta : TA) (σ : St) (F H : Hp) (xs : List α) : Prop := EvA ta σ F H (fun F vs => Paired (R F) vs xs)
theorem el_nil : EvL R tNil σ F H [] := fun F1 H1 g Q q => q _ F1 H1 (.refl g.fh) .nil
theorem el_cons {tr : TA} (h : Ev R te σ F H x) (hr : EvL R tr σ F H xs) (m : Mn R := by infer_instance) : EvL R (tCons te tr) σ F H (x :: xs) := fun F1 H1 g Q q =>
  h F1 H1 g _ fun v F2 H2 g2 r => hr F2 H2 (g.trans g2) _ fun ws F3 H3 g3 p => q _ F3 H3 (g2.trans g3) (.cons (m.mono g3.ff r) p)
theorem ev_lst {t : TA} (h : EvL R t σ F H xs) (hz : xs.length ≤ sizeLine) (m : Mn R := by infer_instance) : Ev (rLst R) (tLst t) σ F H xs := fun F1 H1 g Q q =>
  h F1 H1 g _ fun vs F2 H2 g2 p => ⟨by rw [p.length]; exact hz, fun D hD => q _ _ _ (g2.trans (.new g2.fh hD)) ⟨D, vs, rfl, upd_same, Paired.up (Gr.new (M := M0) g2.fh hD).ff p⟩⟩
theorem ev_tup {t : TA} (h : EvL R t σ F H xs) (hz : xs.length ≤ sizeLine) (m : Mn R := by infer_instance) : Ev (rTup R) (tTup t) σ F H xs := fun F1 H1 g Q q =>
  h F1 H1 g _ fun vs F2 H2 g2 p => ⟨by rw [p.length]; exact hz, fun D hD => q _ _ _ (g2.trans (.new g2.fh hD)) ⟨D, vs, rfl, upd_same, Paired.up (Gr.new (M := M0) g2.fh hD).ff p⟩⟩
theorem ev_pr (ha : Ev R ta σ F H x) (hb : Ev S tb σ F H y) (m : Mn R := by infer_instance) (n : Mn S := by infer_instance) : Ev (rPr R S) (tTup (tCons ta (tCons tb tNil))) σ F H (x, y) := fun F1 H1 g Q q =>
  ha F1 H1 g _ fun v F2 H2 g2 r => hb F2 H2 (g.trans g2) _ fun w F3 H3 g3 r2 => ⟨by show 2 ≤ sizeLine; decide, fun D hD => by
    have g4 : Gr M0 F3 H3 (upd F3 D (.tup [v, w])) (upd H3 D (.tup [v, w])) := .new g3.fh hD
    exact q _ _ _ ((g2.trans g3).trans g4) ⟨D, v, w, rfl, upd_same, m.mono (g3.ff.trans g4.ff) r, n.mono g4.ff r2⟩⟩
abbrev rListS (K : PySem.W.Frag) : List V → Hp → VK → Prop := fun xs H Q => ∃ p ys, xs = [.ref p] ∧ (SqL K H p ys ∨ SqT K H p ys) ∧ ∀ l, H l = none → Q (.ref l) (upd H l (.lst ys))
abbrev rTupS (K : PySem.W.Frag) : List V → Hp → VK → Prop := fun xs H Q => ∃ p ys, xs = [.ref p] ∧ ((SqL K H p ys ∧ ∀ l, H l = none → Q (.ref l) (upd H l (.tup ys))) ∨ (SqT K H p ys ∧ Q (.ref p) H))
theorem ev_listL (ha : Ev (rLst R) ta σ F H xs) (m : Mn R := by infer_instance) : Ev (rLst R) (tCB (rListS K) (tCons ta tNil)) σ F H xs := fun F1 H1 g1 Q q =>
  ha F1 H1 g1 _ fun v F2 H2 g2 ⟨a, vs, e, hl, p⟩ => ⟨a, vs, by rw [e], .inl (SqL.of (g2.fh _ _ hl)), fun D hD => q _ _ _ (g2.trans (.new g2.fh hD)) ⟨D, vs, rfl, upd_same, Paired.up (Gr.new (M := M0) g2.fh hD).ff p⟩⟩
theorem ev_listT (ha : Ev (rTup R) ta σ F H xs) (m : Mn R := by infer_instance) : Ev (rLst R) (tCB (rListS K) (tCons ta tNil)) σ F H xs := fun F1 H1 g1 Q q =>
  ha F1 H1 g1 _ fun v F2 H2 g2 ⟨a, vs, e, hl, p⟩ => ⟨a, vs, by rw [e], .inr (SqT.of (g2.fh _ _ hl)), fun D hD => q _ _ _ (g2.trans (.new g2.fh hD)) ⟨D, vs, rfl, upd_same, Paired.up (Gr.new (M := M0) g2.fh hD).ff p⟩⟩
theorem ev_tupL (ha : Ev (rLst R) ta σ F H xs) (m : Mn R := by infer_instance) : Ev (rTup R) (tCB (rTupS K) (tCons ta tNil)) σ F H xs := fun F1 H1 g1 Q q =>
  ha F1 H1 g1 _ fun v F2 H2 g2 ⟨a, vs, e, hl, p⟩ => ⟨a, vs, by rw [e], .inl ⟨SqL.of (g2.fh _ _ hl), fun D hD => q _ _ _ (g2.trans (.new g2.fh hD)) ⟨D, vs, rfl, upd_same, Paired.up (Gr.new (M := M0) g2.fh hD).ff p⟩⟩⟩
theorem rgV_paired {H : Hp} (n : Nat) : Paired (rNat H) (rgV 0 (n : Int)) (List.range n) := by
  unfold rgV
  rw [show ((n : Int) - 0).toNat = n by omega]
  have : ∀ l : List Nat, Paired (rNat H) (l.map fun i => V.int (0 + (i : Nat))) l := fun l => by
    induction l with
    | nil => exact .nil
    | cons a l ih => exact .cons (show V.int (0 + (a : Int)) = V.int (a : Int) by rw [Int.zero_add]) ih
  exact this _
theorem ev_tupRg {n : Nat} (ha : Ev rInt ta σ F H (n : Int)) (hn : n ≤ 1000000) : Ev (rTup rNat) (tTupRg (tRg1 ta)) σ F H (List.range n) := fun F1 H1 g1 Q q =>
  ha F1 H1 g1 _ fun v F2 H2 g2 e => ⟨n, e, .of_le (by omega) (by omega) (by omega) (by omega), fun D hD => q _ _ _ (g2.trans (.new g2.fh hD)) ⟨D, _, rfl, upd_same, rgV_paired n⟩⟩
theorem ev_lstRg {n : Nat} (ha : Ev rInt ta σ F H (n : Int)) (hn : n ≤ 1000000) : Ev (rLst rNat) (tLstRg (tRg1 ta)) σ F H (List.range n) := fun F1 H1 g1 Q q =>
  ha F1 H1 g1 _ fun v F2 H2 g2 e => ⟨n, e, .of_le (by omega) (by omega) (by omega) (by omega), fun D hD => q _ _ _ (g2.trans (.new g2.fh hD)) ⟨D, _, rfl, upd_same, rgV_paired n⟩⟩
theorem ev_all {bs : List Bool} (ha : Ev (rLst rBl) ta σ F H bs) : Ev rBl (tCB (rAll K) (tCons ta tNil)) σ F H (bs.all id) := fun F1 H1 g1 Q q =>
  ha F1 H1 g1 _ fun v F2 H2 g2 ⟨a, vs, e, hl, p⟩ => ⟨a, bs, by rw [e], by rw [← bls_paired p]; exact SqL.of (g2.fh _ _ hl), q _ F2 H2 g2 rfl⟩
theorem ev_any {bs : List Bool} (ha : Ev (rLst rBl) ta σ F H bs) : Ev rBl (tCB (rAny K) (tCons ta tNil)) σ F H (bs.any id) := fun F1 H1 g1 Q q =>
  ha F1 H1 g1 _ fun v F2 H2 g2 ⟨a, vs, e, hl, p⟩ => ⟨a, bs, by rw [e], by rw [← bls_paired p]; exact SqL.of (g2.fh _ _ hl), q _ F2 H2 g2 rfl⟩
theorem ev_sum {ns : List Int} (ha : Ev (rLst rInt) ta σ F H ns) : Ev rInt (tCB (rSum K) (tCons ta tNil)) σ F H ns.sum := fun F1 H1 g1 Q q =>
  ha F1 H1 g1 _ fun v F2 H2 g2 ⟨a, vs, e, hl, p⟩ => ⟨a, ns, by rw [e], by rw [← ints_paired p]; exact SqL.of (g2.fh _ _ hl), q _ F2 H2 g2 rfl⟩
theorem ev_cat {xs ys : List α} (ha : Ev (rLst R) ta σ F H xs) (hb : Ev (rLst R) tb σ F H ys) (hz : xs.length + ys.length ≤ sizeLine) (m : Mn R := by infer_instance) : Ev (rLst R) (tOp rCat ta tb) σ F H (xs ++ ys) := fun F1 H1 g1 Q q =>
  ha F1 H1 g1 _ fun v F2 H2 g2 ⟨a, vs, e, hl, p⟩ => hb F2 H2 (g1.trans g2) _ fun w F3 H3 g3 ⟨b, ws, e2, hl2, p2⟩ =>
    ⟨a, b, vs, ws, e, e2, g3.fh _ _ (g3.ff _ _ hl), g3.fh _ _ hl2, by rw [p.length, p2.length]; exact hz, fun D hD => by
      have g4 : Gr M0 F3 H3 (upd F3 D (.lst (vs ++ ws))) (upd H3 D (.lst (vs ++ ws))) := .new g3.fh hD
      exact q _ _ _ ((g2.trans g3).trans g4) ⟨D, _, rfl, upd_same, Paired.app (Paired.up (g3.ff.trans g4.ff) p) (Paired.up g4.ff p2)⟩⟩
theorem ev_rep1 {n : Int} (ha : Ev (rLst R) ta σ F H [x]) (hb : Ev rInt tb σ F H n) (hn : n ≤ 1000000) (h0 : -1000000 ≤ n) (m : Mn R := by infer_instance) : Ev (rLst R) (tOp rRep ta tb) σ F H (List.replicate n.toNat x) := fun F1 H1 g1 Q q =>
  ha F1 H1 g1 _ fun v F2 H2 g2 ⟨a, vs, e, hl, p⟩ => hb F2 H2 (g1.trans g2) _ fun w F3 H3 g3 e2 => by
    cases p with
    | cons r p =>
      cases p
      rename_i y
      refine ⟨a, n, [y], e, e2, g3.fh _ _ (g3.ff _ _ hl), by omega, by omega, by show 1 * n.toNat ≤ sizeLine; rw [sizeLine_eq]; omega, fun D hD => ?_⟩
      have g4 : ∀ o, Gr M0 F3 H3 (upd F3 D o) (upd H3 D o) := fun o => .new g3.fh hD
      refine q _ _ _ ((g2.trans g3).trans (g4 _)) ⟨D, _, rfl, upd_same, ?_⟩
      have r' := fun o => m.mono (g3.ff.trans (g4 o).ff) r
      generalize e5 : HO.lst _ = o5
      have r5 := r' o5
      have : ∀ k, Paired (R (upd F3 D o5)) (List.replicate k [y]).flatten (List.replicate k x) := fun k => by
        induction k with
        | zero => exact .nil
        | succ k ih => exact .cons r5 ih
      exact this _
end
end El

set_option Elab.async false
set_option linter.all false
set_option maxRecDepth 100000
set_option maxHeartbeats 2000000
namespace El
open PySem PySem.Spec L2
section
variable {K : PySem.W.Frag} {σ : St} {F H F' H' : Hp} {ta tb tc te tl : TE} {tt t u : TT} {α β γ δ ε : Type} {R : Rp α} {S : Rp β} {T : Rp γ} {x : α} {y : β} {z : γ} {xs : List α} {ys : List β} {i j : Int} {D : Ends} {ts tu : TS}

/-! ### statements -/
theorem x_set {i : Nat} (e : Ex F H) (h : Ev R te σ F H x) (k : ∀ v F' H', Gr M0 F H F' H' → R F' v x → D.nx (σ.set i (some v)) H') : tAsg te (gName i) D σ H := h F H (.refl e) _ fun v F' H' g r => k v F' H' g r
theorem x_ret (e : Ex F H) (h : Ev R te σ F H x) (k : ∀ v F' H', Gr M0 F H F' H' → R F' v x → D.rt v H') : tRet te D σ H := h F H (.refl e) _ k
theorem x_drop (e : Ex F H) (h : Ev R te σ F H x) (k : ∀ F' H', Gr M0 F H F' H' → D.nx σ H') : tDrop te D σ H := h F H (.refl e) _ fun v F' H' g _ => k F' H' g
theorem x_if {b : Bool} (e : Ex F H) (h : EvT t σ F H b) (k1 : b = true → ∀ F' H', Gr M0 F H F' H' → ts D σ H') (k2 : b = false → ∀ F' H', Gr M0 F H F' H' → tu D σ H') : tIfS t ts tu D σ H := h F H (.refl e) _ fun F' H' g => by
  cases b with
  | true => exact k1 rfl F' H' g
  | false => exact k2 rfl F' H' g
/-- name += int -/
theorem x_aug {i : Nat} {a b : Int} {f : Int → Int → Int} (e : Ex F H) (hx : σ[i]? = some (some (.int a))) (h : Ev rInt te σ F H b) (k : ∀ F' H', Gr M0 F H F' H' → D.nx (σ.set i (some (.int (f a b)))) H') : tAug i te (ipI f) D σ H :=
  ⟨.int a, hx, h F H (.refl e) _ fun v F' H' g r => ⟨a, b, rfl, r, k F' H' g⟩⟩
/-- a new list that may change: x = [] -/
theorem x_nil {i : Nat} (e : Ex F H) (k : ∀ l, H l = none → D.nx (σ.set i (some (.ref l))) (upd H l (.lst []))) : tAsg (tLst tNil) (gName i) D σ H := ⟨Nat.zero_le _, fun l hl => k l hl⟩
/-- a new list that may change, by what it evaluates to -/
theorem x_setM {i : Nat} (e : Ex F H) (h : Ev (rLst R) te σ F H xs) (k : ∀ v F' H', Gr M0 F H F' H' → rLst R F' v xs → D.nx (σ.set i (some v)) H') : tAsg te (gName i) D σ H := x_set e h k
/-- xs.append(e) -/
theorem x_app {l : Addr} {vs : List V} (e : Ex F H) (ha : Ev rRef ta σ F H l) (hl : H l = some (.lst vs)) (h : Ev R te σ F H x) (hz : vs.length < sizeLine)
    (k : ∀ v F' H', Gr M0 F H F' H' → R F' v x → H' l = some (.lst vs) → D.nx σ (upd H' l (.lst (vs ++ [v])))) : tDrop (tBM K "list" rAppend ta (tCons te tNil)) D σ H :=
  ha F H (.refl e) _ fun v F1 H1 g1 r1 => by
    cases (show v = _ from r1)
    exact ⟨.inl ⟨rfl, vs, SqL.of (g1.hx _ _ hl)⟩, h F1 H1 g1 _ fun w F2 H2 g2 r2 => ⟨l, vs, w, rfl, rfl, g2.hx _ _ (g1.hx _ _ hl), hz, k w F2 H2 (g1.trans g2) r2 (g2.hx _ _ (g1.hx _ _ hl))⟩⟩
/-- xs.extend(e) -/
theorem x_ext {l : Addr} {vs : List V} {zs : List α} (e : Ex F H) (ha : Ev rRef ta σ F H l) (hl : H l = some (.lst vs)) (h : Ev (rLst R) te σ F H zs) (hz : vs.length + zs.length ≤ sizeLine)
    (k : ∀ ws F' H', Gr M0 F H F' H' → Paired (R F') ws zs → H' l = some (.lst vs) → D.nx σ (upd H' l (.lst (vs ++ ws)))) : tDrop (tBM K "list" rExtend ta (tCons te tNil)) D σ H :=
  ha F H (.refl e) _ fun v F1 H1 g1 r1 => by
    cases (show v = _ from r1)
    exact ⟨.inl ⟨rfl, vs, SqL.of (g1.hx _ _ hl)⟩, h F1 H1 g1 _ fun w F2 H2 g2 ⟨b, ws, eb, hb, p⟩ => by
      subst eb
      exact ⟨l, b, vs, ws, rfl, rfl, g2.hx _ _ (g1.hx _ _ hl), g2.fh _ _ hb, by rw [p.length]; exact hz, k ws F2 H2 (g1.trans g2) p (g2.hx _ _ (g1.hx _ _ hl))⟩⟩
/-- xs[i] = e -/
theorem x_setI {l : Addr} {vs : List V} {n : Nat} (e : Ex F H) (h : Ev R te σ F H x) (ha : Ev rRef ta σ F H l) (hi : Ev rInt tb σ F H (n : Int)) (hl : H l = some (.lst vs)) (hn : n < vs.length)
    (k : ∀ v F' H', Gr M0 F H F' H' → R F' v x → H' l = some (.lst vs) → D.nx σ (upd H' l (.lst (vs.set n v)))) (m : Mn R := by infer_instance) : tAsg te (gSub ta tb rSetL) D σ H :=
  h F H (.refl e) _ fun v F1 H1 g1 r1 => ha F1 H1 g1 _ fun w F2 H2 g2 r2 => hi F2 H2 (g1.trans g2) _ fun w3 F3 H3 g3 r3 => by
    refine ⟨l, vs, (n : Int), n, r2, r3, g3.hx _ _ (g2.hx _ _ (g1.hx _ _ hl)), ?_, k v F3 H3 ((g1.trans g2).trans g3) (m.mono (g2.ff.trans g3.ff) r1) (g3.hx _ _ (g2.hx _ _ (g1.hx _ _ hl)))⟩
    unfold ixN
    rw [if_pos (by omega), if_pos (by omega)]
    rfl

/-! ### loops -/
/-- for x in a frozen list -/
theorem x_forL {n : Nat} (e : Ex F H) (h : Ev (rLst R) tl σ F H xs) (Pv : Nat → St → Hp → Hp → Prop) (h0 : ∀ F1 H1, Gr M0 F H F1 H1 → Pv 0 σ F1 H1)
    (hs : ∀ F1, Ex F F1 → ∀ i x v σ' F' H', xs[i]? = some x → Ex F1 F' → Ex F' H' → R F' v x → Pv i σ' F' H' →
      ts { D with nx := fun σ2 H2 => ∃ F2, Ex F1 F2 ∧ Ex F2 H2 ∧ Pv (i + 1) σ2 F2 H2, ct := fun σ2 H2 => ∃ F2, Ex F1 F2 ∧ Ex F2 H2 ∧ Pv (i + 1) σ2 F2 H2, bk := D.nx } (σ'.set n (some v)) H')
    (hd : ∀ σ' F' H', Ex F F' → Ex F' H' → Pv xs.length σ' F' H' → D.nx σ' H') (m : Mn R := by infer_instance) : tFor (iList K tl) (gName n) ts D σ H := by
  refine h F H (.refl e) _ fun v F1 H1 g1 ⟨a, vs, ea, hl, p⟩ => ⟨a, ea, ⟨vs, SqL.of (g1.fh _ _ hl)⟩, ?_⟩
  refine for_list (xs := vs) (fun i σ' H' => ∃ F', Ex F1 F' ∧ Ex F' H' ∧ Pv i σ' F' H') ⟨F1, Ex.refl _, g1.fh, h0 F1 H1 g1⟩ (fun i σ' H' _ ⟨F', e1, e2, _⟩ => SqL.of (e2 _ _ (e1 _ _ hl))) ?_ ?_
  · rintro i w σ' H' hi ⟨F', e1, e2, pv⟩
    obtain ⟨x, hx, rx⟩ := Paired.getL p hi
    exact hs F1 g1.ff i x w σ' F' H' hx e1 e2 (m.mono e1 rx) pv
  · rintro σ' H' ⟨F', e1, e2, pv⟩
    rw [p.length] at pv
    exact hd σ' F' H' (g1.ff.trans e1) e2 pv
theorem x_forT {n : Nat} (e : Ex F H) (h : Ev (rTup R) tl σ F H xs) (Pv : Nat → St → Hp → Hp → Prop) (h0 : ∀ F1 H1, Gr M0 F H F1 H1 → Pv 0 σ F1 H1)
    (hs : ∀ F1, Ex F F1 → ∀ i x v σ' F' H', xs[i]? = some x → Ex F1 F' → Ex F' H' → R F' v x → Pv i σ' F' H' →
      ts { D with nx := fun σ2 H2 => ∃ F2, Ex F1 F2 ∧ Ex F2 H2 ∧ Pv (i + 1) σ2 F2 H2, ct := fun σ2 H2 => ∃ F2, Ex F1 F2 ∧ Ex F2 H2 ∧ Pv (i + 1) σ2 F2 H2, bk := D.nx } (σ'.set n (some v)) H')
    (hd : ∀ σ' F' H', Ex F F' → Ex F' H' → Pv xs.length σ' F' H' → D.nx σ' H') (m : Mn R := by infer_instance) : tFor (iTup K tl) (gName n) ts D σ H := by
  refine h F H (.refl e) _ fun v F1 H1 g1 ⟨a, vs, ea, hl, p⟩ => ⟨a, ea, ⟨vs, SqT.of (g1.fh _ _ hl)⟩, ?_⟩
  refine for_tup (xs := vs) (fun i σ' H' => ∃ F', Ex F1 F' ∧ Ex F' H' ∧ Pv i σ' F' H') ⟨F1, Ex.refl _, g1.fh, h0 F1 H1 g1⟩ (fun i σ' H' _ ⟨F', e1, e2, _⟩ => SqT.of (e2 _ _ (e1 _ _ hl))) ?_ ?_
  · rintro i w σ' H' hi ⟨F', e1, e2, pv⟩
    obtain ⟨x, hx, rx⟩ := Paired.getL p hi
    exact hs F1 g1.ff i x w σ' F' H' hx e1 e2 (m.mono e1 rx) pv
  · rintro σ' H' ⟨F', e1, e2, pv⟩
    rw [p.length] at pv
    exact hd σ' F' H' (g1.ff.trans e1) e2 pv
/-- for k in range(n) -/
theorem x_forR {j : Nat} {n : Nat} {ta : TE} (e : Ex F H) (h : Ev rInt ta σ F H (n : Int)) (hn : n ≤ 1000000000) (Pv : Nat → St → Hp → Hp → Prop) (h0 : ∀ F1 H1, Gr M0 F H F1 H1 → Pv 0 σ F1 H1)
    (hs : ∀ F1, Ex F F1 → ∀ i σ' F' H', i < n → Ex F1 F' → Ex F' H' → Pv i σ' F' H' →
      ts { D with nx := fun σ2 H2 => ∃ F2, Ex F1 F2 ∧ Ex F2 H2 ∧ Pv (i + 1) σ2 F2 H2, ct := fun σ2 H2 => ∃ F2, Ex F1 F2 ∧ Ex F2 H2 ∧ Pv (i + 1) σ2 F2 H2, bk := D.nx } (σ'.set j (some (.int (i : Int)))) H')
    (hd : ∀ σ' F' H', Ex F F' → Ex F' H' → Pv n σ' F' H' → D.nx σ' H') : tFor (iRng1 (tCons ta tNil)) (gName j) ts D σ H := by
  refine h F H (.refl e) _ fun v F1 H1 g1 ea => ⟨(n : Int), by rw [show v = _ from ea], by omega, by omega, ?_⟩
  rw [Int.toNat_natCast]
  refine for_range (lo := 0) (n := n) (fun i σ' H' => ∃ F', Ex F1 F' ∧ Ex F' H' ∧ Pv i σ' F' H') ⟨F1, Ex.refl _, g1.fh, h0 F1 H1 g1⟩ ?_ ?_
  · rintro i σ' H' hi ⟨F', e1, e2, pv⟩
    have e0 : (0 : Int) + (i : Int) = (i : Int) := Int.zero_add _
    show ts _ (σ'.set j (some (.int ((0 : Int) + (i : Int))))) H'
    rw [e0]
    exact hs F1 g1.ff i σ' F' H' hi e1 e2 pv
  · rintro σ' H' ⟨F', e1, e2, pv⟩
    exact hd σ' F' H' (g1.ff.trans e1) e2 pv
/-- for k in range(a, b) -/
theorem x_forR2 {j : Nat} {a b : Nat} {ta tb : TE} (e : Ex F H) (h : Ev rInt ta σ F H (a : Int)) (h2 : Ev rInt tb σ F H (b : Int)) (hn : b ≤ 1000000000) (ha : a ≤ 1000000000) (Pv : Nat → St → Hp → Hp → Prop) (h0 : ∀ F1 H1, Gr M0 F H F1 H1 → Pv 0 σ F1 H1)
    (hs : ∀ F1, Ex F F1 → ∀ i σ' F' H', a + i < b → Ex F1 F' → Ex F' H' → Pv i σ' F' H' →
      ts { D with nx := fun σ2 H2 => ∃ F2, Ex F1 F2 ∧ Ex F2 H2 ∧ Pv (i + 1) σ2 F2 H2, ct := fun σ2 H2 => ∃ F2, Ex F1 F2 ∧ Ex F2 H2 ∧ Pv (i + 1) σ2 F2 H2, bk := D.nx } (σ'.set j (some (.int ((a + i : Nat) : Int)))) H')
    (hd : ∀ σ' F' H', Ex F F' → Ex F' H' → Pv (b - a) σ' F' H' → D.nx σ' H') : tFor (iRng2 (tCons ta (tCons tb tNil))) (gName j) ts D σ H := by
  refine h F H (.refl e) _ fun v F1 H1 g1 ea => h2 F1 H1 g1 _ fun w F2 H2 g2 eb => ⟨(a : Int), (b : Int), by rw [show v = _ from ea, show w = _ from eb], ⟨by omega, by omega, by omega, by omega⟩, ?_⟩
  rw [show ((b : Int) - (a : Int)).toNat = b - a by omega]
  refine for_range (lo := (a : Int)) (n := b - a) (fun i σ' H' => ∃ F', Ex F2 F' ∧ Ex F' H' ∧ Pv i σ' F' H') ⟨F2, Ex.refl _, g2.fh, h0 F2 H2 (g1.trans g2)⟩ ?_ ?_
  · rintro i σ' H' hi ⟨F', e1, e2, pv⟩
    have e0 : ((a : Int) + (i : Int)) = ((a + i : Nat) : Int) := by omega
    show ts _ (σ'.set j (some (.int ((a : Int) + (i : Int))))) H'
    rw [e0]
    exact hs F2 (g1.ff.trans g2.ff) i σ' F' H' (by omega) e1 e2 pv
  · rintro σ' H' ⟨F', e1, e2, pv⟩
    exact hd σ' F' H' ((g1.ff.trans g2.ff).trans e1) e2 pv
/-- while: a test that is pure, a measure -/
theorem x_while {tc : TT} (e : Ex F H) (Pv : Nat → St → Hp → Hp → Prop) (m0 : Nat) (h0 : Pv m0 σ F H) (b : Nat → St → Hp → Hp → Bool) (hc : ∀ m σ' F' H', Ex F F' → Ex F' H' → Pv m σ' F' H' → EvT tc σ' F' H' (b m σ' F' H'))
    (st : ∀ m σ' F' H' F2 H2, Gr M0 F' H' F2 H2 → Pv m σ' F' H' → Pv m σ' F2 H2)
    (hs : ∀ m σ' F' H' F2 H2, Ex F F' → Gr M0 F' H' F2 H2 → b m σ' F' H' = true → Pv m σ' F' H' → Pv m σ' F2 H2 → 
      ts { D with nx := fun σ2 H2 => ∃ F2 m', Ex F F2 ∧ Ex F2 H2 ∧ m' < m ∧ Pv m' σ2 F2 H2, ct := fun σ2 H2 => ∃ F2 m', Ex F F2 ∧ Ex F2 H2 ∧ m' < m ∧ Pv m' σ2 F2 H2, bk := D.nx } σ' H2)
    (hd : ∀ m σ' F' H' F2 H2, Ex F F' → Gr M0 F' H' F2 H2 → b m σ' F' H' = false → Pv m σ' F' H' → Pv m σ' F2 H2 → D.nx σ' H2) : tWhile tc ts D σ H := by
  refine ⟨fun m σ' H' => ∃ F', Ex F F' ∧ Ex F' H' ∧ Pv m σ' F' H', ⟨m0, F, Ex.refl _, e, h0⟩, ?_⟩
  rintro m σ' H' ⟨F', e1, e2, pv⟩
  refine hc m σ' F' H' e1 e2 pv F' H' (.refl e2) _ fun F2 H2 g => ?_
  cases q : b m σ' F' H' with
  | true => exact ⟨_, fun σ2 H3 ⟨F3, m', a1, a2, a3, a4⟩ => ⟨m', a3, F3, a1, a2, a4⟩, hs m σ' F' H' F2 H2 e1 g q pv (st _ _ _ _ _ _ g pv)⟩
  | false => exact hd m σ' F' H' F2 H2 e1 g q pv (st _ _ _ _ _ _ g pv)

/-! ### comprehensions -/
/-- [elt for x in list], of each item an answer -/
theorem ev_lc {n : Nat} {vs : List Nat} (h : Ev (rLst R) tl σ F H xs) (hlen : ys.length = xs.length) (hz : xs.length ≤ 1000000) (hw : ∀ v, wipe ((wipe σ vs).set n (some v)) vs = wipe σ vs)
    (he : ∀ (i : Nat) x y v F1 H1, xs[i]? = some x → ys[i]? = some y → Gr M0 F H F1 H1 → R F1 v x → Ev S te ((wipe σ vs).set n (some v)) F1 H1 y) (m : Mn R := by infer_instance) (m' : Mn S := by infer_instance) : Ev (rLst S) (tLc (iList K tl) (gName n) tYes te vs) σ F H ys := by
  intro F1 H1 g1 Q q
  refine h F1 H1 g1 _ fun v F2 H2 g2 ⟨a, ws, ea, hl, p⟩ => ⟨a, ea, ⟨ws, SqL.of (g2.fh _ _ hl)⟩, fun D hD => ?_⟩
  refine lc_list (xs := ws) (fun i H' => ∃ F' us, Gr M0 F2 H2 F' H' ∧ F' D = none ∧ H' D = some (.lst us) ∧ Paired (S F') us (ys.take i)) ⟨F2, [], .loc g2.fh hD, g2.fh.free hD, upd_same, .nil⟩ (fun i H' _ ⟨F', us, g, _⟩ => SqL.of (g.fh _ _ (g.ff _ _ hl))) ?_ ?_
  · rintro i w H' hi ⟨F', us, g, fD, hD', pu⟩
    obtain ⟨x, hx, rx⟩ := Paired.getL p hi
    have hil : i < ys.length := by rw [hlen]; exact (List.getElem?_eq_some_iff.mp hx).1
    have hy : ys[i]? = some ys[i] := List.getElem?_eq_getElem hil
    refine ⟨hw w, ?_⟩
    refine he i x ys[i] w F' H' hx hy ((g1.trans g2).trans g) (m.mono g.ff rx) F' H' (.refl g.fh) _ fun u F3 H3 g3 r3 => ?_
    refine ⟨us, g3.hx _ _ hD', ?_, F3, us ++ [u], (g.trans g3).set' (g3.nn hD' fD) (.inl hD), g3.nn hD' fD, upd_same, ?_⟩
    · rw [pu.length, List.length_take, sizeLine_eq]
      omega
    · rw [List.take_add_one, hy]
      exact (Paired.up g3.ff pu).snoc r3
  · rintro H' ⟨F', us, g, fD, hD', pu⟩
    rw [p.length, ← hlen, List.take_length] at pu
    exact q _ _ _ (g2.trans (g.frz hD' (g2.fh.free hD) (.inl hD))) ⟨D, us, rfl, upd_same, Paired.up (g.fh.frz hD' fD) pu⟩
theorem ev_lcT {n : Nat} {vs : List Nat} (h : Ev (rTup R) tl σ F H xs) (hlen : ys.length = xs.length) (hz : xs.length ≤ 1000000) (hw : ∀ v, wipe ((wipe σ vs).set n (some v)) vs = wipe σ vs)
    (he : ∀ (i : Nat) x y v F1 H1, xs[i]? = some x → ys[i]? = some y → Gr M0 F H F1 H1 → R F1 v x → Ev S te ((wipe σ vs).set n (some v)) F1 H1 y) (m : Mn R := by infer_instance) (m' : Mn S := by infer_instance) : Ev (rLst S) (tLc (iTup K tl) (gName n) tYes te vs) σ F H ys := by
  intro F1 H1 g1 Q q
  refine h F1 H1 g1 _ fun v F2 H2 g2 ⟨a, ws, ea, hl, p⟩ => ⟨a, ea, ⟨ws, SqT.of (g2.fh _ _ hl)⟩, fun D hD => ?_⟩
  refine lc_tup (xs := ws) (fun i H' => ∃ F' us, Gr M0 F2 H2 F' H' ∧ F' D = none ∧ H' D = some (.lst us) ∧ Paired (S F') us (ys.take i)) ⟨F2, [], .loc g2.fh hD, g2.fh.free hD, upd_same, .nil⟩ (fun i H' _ ⟨F', us, g, _⟩ => SqT.of (g.fh _ _ (g.ff _ _ hl))) ?_ ?_
  · rintro i w H' hi ⟨F', us, g, fD, hD', pu⟩
    obtain ⟨x, hx, rx⟩ := Paired.getL p hi
    have hil : i < ys.length := by rw [hlen]; exact (List.getElem?_eq_some_iff.mp hx).1
    have hy : ys[i]? = some ys[i] := List.getElem?_eq_getElem hil
    refine ⟨hw w, ?_⟩
    refine he i x ys[i] w F' H' hx hy ((g1.trans g2).trans g) (m.mono g.ff rx) F' H' (.refl g.fh) _ fun u F3 H3 g3 r3 => ?_
    refine ⟨us, g3.hx _ _ hD', ?_, F3, us ++ [u], (g.trans g3).set' (g3.nn hD' fD) (.inl hD), g3.nn hD' fD, upd_same, ?_⟩
    · rw [pu.length, List.length_take, sizeLine_eq]
      omega
    · rw [List.take_add_one, hy]
      exact (Paired.up g3.ff pu).snoc r3
  · rintro H' ⟨F', us, g, fD, hD', pu⟩
    rw [p.length, ← hlen, List.take_length] at pu
    exact q _ _ _ (g2.trans (g.frz hD' (g2.fh.free hD) (.inl hD))) ⟨D, us, rfl, upd_same, Paired.up (g.fh.frz hD' fD) pu⟩
/-- [elt for k in range(n)] -/
theorem ev_lcR {j n : Nat} {vs : List Nat} {ta : TE} (h : Ev rInt ta σ F H (n : Int)) (hlen : ys.length = n) (hz : n ≤ 1000000) (hw : ∀ v, wipe ((wipe σ vs).set j (some v)) vs = wipe σ vs)
    (he : ∀ i y F1 H1, i < n → ys[i]? = some y → Gr M0 F H F1 H1 → Ev S te ((wipe σ vs).set j (some (.int (i : Int)))) F1 H1 y) (m' : Mn S := by infer_instance) : Ev (rLst S) (tLc (iRng1 (tCons ta tNil)) (gName j) tYes te vs) σ F H ys := by
  intro F1 H1 g1 Q q
  refine h F1 H1 g1 _ fun v F2 H2 g2 ea => ⟨(n : Int), by rw [show v = _ from ea], by omega, by omega, fun D hD => ?_⟩
  rw [Int.toNat_natCast]
  refine lc_range (lo := 0) (n := n) (fun i H' => ∃ F' us, Gr M0 F2 H2 F' H' ∧ F' D = none ∧ H' D = some (.lst us) ∧ Paired (S F') us (ys.take i)) ⟨F2, [], .loc g2.fh hD, g2.fh.free hD, upd_same, .nil⟩ ?_ ?_
  · rintro i H' hi ⟨F', us, g, fD, hD', pu⟩
    have hil : i < ys.length := by rw [hlen]; exact hi
    have hy : ys[i]? = some ys[i] := List.getElem?_eq_getElem hil
    have e0 : (0 : Int) + (i : Int) = (i : Int) := Int.zero_add _
    rw [e0]
    refine ⟨hw _, ?_⟩
    refine he i ys[i] F' H' hi hy ((g1.trans g2).trans g) F' H' (.refl g.fh) _ fun u F3 H3 g3 r3 => ?_
    refine ⟨us, g3.hx _ _ hD', ?_, F3, us ++ [u], (g.trans g3).set' (g3.nn hD' fD) (.inl hD), g3.nn hD' fD, upd_same, ?_⟩
    · rw [pu.length, List.length_take, sizeLine_eq]
      omega
    · rw [List.take_add_one, hy]
      exact (Paired.up g3.ff pu).snoc r3
  · rintro H' ⟨F', us, g, fD, hD', pu⟩
    rw [← hlen, List.take_length] at pu
    exact q _ _ _ (g2.trans (g.frz hD' (g2.fh.free hD) (.inl hD))) ⟨D, us, rfl, upd_same, Paired.up (g.fh.frz hD' fD) pu⟩
end

/-! ### promises of pure defs -/
def Sp1 {α β : Type} (R : Rp α) (Pre : α → Prop) (S : Rp β) (f : α → β) : Sp := fun vs H Q _ => ∃ F v x, vs = [v] ∧ Ex F H ∧ R F v x ∧ Pre x ∧ ∀ w F' H', Gr M0 F H F' H' → S F' w (f x) → Q w H'
def Sp2 {α β γ : Type} (R : Rp α) (S : Rp β) (Pre : α → β → Prop) (T : Rp γ) (f : α → β → γ) : Sp := fun vs H Q _ => ∃ F v w x y, vs = [v, w] ∧ Ex F H ∧ R F v x ∧ S F w y ∧ Pre x y ∧ ∀ z F' H', Gr M0 F H F' H' → T F' z (f x y) → Q z H'
def Sp3 {α β γ δ : Type} (R : Rp α) (S : Rp β) (T : Rp γ) (Pre : α → β → γ → Prop) (U : Rp δ) (f : α → β → γ → δ) : Sp := fun vs H Q _ => ∃ F v w u x y z, vs = [v, w, u] ∧ Ex F H ∧ R F v x ∧ S F w y ∧ T F u z ∧ Pre x y z ∧ ∀ r F' H', Gr M0 F H F' H' → U F' r (f x y z) → Q r H'
def Sp4 {α β γ δ ε : Type} (R : Rp α) (S : Rp β) (T : Rp γ) (U : Rp δ) (Pre : α → β → γ → δ → Prop) (W : Rp ε) (f : α → β → γ → δ → ε) : Sp := fun vs H Q _ => ∃ F v w u u' x y z z', vs = [v, w, u, u'] ∧ Ex F H ∧ R F v x ∧ S F w y ∧ T F u z ∧ U F u' z' ∧ Pre x y z z' ∧ ∀ r F' H', Gr M0 F H F' H' → W F' r (f x y z z') → Q r H'
section
variable {K : PySem.W.Frag} {σ : St} {F H F' H' : Hp} {ta tb tc td te tl : TE} {α β γ δ ε : Type} {R : Rp α} {S : Rp β} {T : Rp γ} {U : Rp δ} {W : Rp ε} {x : α} {y : β} {z : γ} {u : δ} {E : XK}
theorem ev_call1 {Pre : α → Prop} {f : α → β} (ha : Ev R ta σ F H x) (p : Pre x) : Ev S (tCall (Sp1 R Pre S f) [] E (tCons ta tNil)) σ F H (f x) := fun F1 H1 g1 Q q =>
  ha F1 H1 g1 _ fun v F2 H2 g2 r => ⟨F2, v, x, rfl, g2.fh, r, p, fun w F' H' g k => q w F' H' (g2.trans g) k⟩
theorem ev_call2 {Pre : α → β → Prop} {f : α → β → γ} (ha : Ev R ta σ F H x) (hb : Ev S tb σ F H y) (p : Pre x y) (m : Mn R := by infer_instance) : Ev T (tCall (Sp2 R S Pre T f) [] E (tCons ta (tCons tb tNil))) σ F H (f x y) := fun F1 H1 g1 Q q =>
  ha F1 H1 g1 _ fun v F2 H2 g2 r => hb F2 H2 (g1.trans g2) _ fun w F3 H3 g3 r3 => ⟨F3, v, w, x, y, rfl, g3.fh, m.mono g3.ff r, r3, p, fun w F' H' g k => q w F' H' ((g2.trans g3).trans g) k⟩
theorem ev_call3 {Pre : α → β → γ → Prop} {f : α → β → γ → δ} (ha : Ev R ta σ F H x) (hb : Ev S tb σ F H y) (hc : Ev T tc σ F H z) (p : Pre x y z) (m : Mn R := by infer_instance) (n : Mn S := by infer_instance) : Ev U (tCall (Sp3 R S T Pre U f) [] E (tCons ta (tCons tb (tCons tc tNil)))) σ F H (f x y z) := fun F1 H1 g1 Q q =>
  ha F1 H1 g1 _ fun v F2 H2 g2 r => hb F2 H2 (g1.trans g2) _ fun w F3 H3 g3 r3 => hc F3 H3 ((g1.trans g2).trans g3) _ fun w' F4 H4 g4 r4 =>
    ⟨F4, v, w, w', x, y, z, rfl, g4.fh, m.mono (g3.ff.trans g4.ff) r, n.mono g4.ff r3, r4, p, fun w F' H' g k => q w F' H' (((g2.trans g3).trans g4).trans g) k⟩
theorem ev_call4 {Pre : α → β → γ → δ → Prop} {f : α → β → γ → δ → ε} (ha : Ev R ta σ F H x) (hb : Ev S tb σ F H y) (hc : Ev T tc σ F H z) (hd : Ev U td σ F H u) (p : Pre x y z u) (m : Mn R := by infer_instance) (n : Mn S := by infer_instance) (o : Mn T := by infer_instance) :
    Ev W (tCall (Sp4 R S T U Pre W f) [] E (tCons ta (tCons tb (tCons tc (tCons td tNil))))) σ F H (f x y z u) := fun F1 H1 g1 Q q =>
  ha F1 H1 g1 _ fun v F2 H2 g2 r => hb F2 H2 (g1.trans g2) _ fun w F3 H3 g3 r3 => hc F3 H3 ((g1.trans g2).trans g3) _ fun w' F4 H4 g4 r4 => hd F4 H4 (((g1.trans g2).trans g3).trans g4) _ fun w'' F5 H5 g5 r5 =>
    ⟨F5, v, w, w', w'', x, y, z, u, rfl, g5.fh, m.mono ((g3.ff.trans g4.ff).trans g5.ff) r, n.mono (g4.ff.trans g5.ff) r3, o.mono g5.ff r4, r5, p, fun w F' H' g k => q w F' H' ((((g2.trans g3).trans g4).trans g5).trans g) k⟩
/-- instances: what stands at the address -/
class IsI {α : Type} (R : Rp α) (C : Addr) (m : Str) : Prop where
  at_ : ∀ {F v x}, R F v x → ∃ a dx fs, v = .ref a ∧ F a = some (.ins C dx fs) ∧ fs.lookup m = none
theorem ev_meth0 {C : Addr} {m : Str} {Pre : α → Prop} {f : α → β} [c : IsI R C m] (ha : Ev R ta σ F H x) (p : Pre x) : Ev S (tMeth C m (Sp1 R Pre S f) [] E ta tNil) σ F H (f x) := fun F1 H1 g1 Q q =>
  ha F1 H1 g1 _ fun v F2 H2 g2 r => by
    obtain ⟨a, dx, fs, e, h, l⟩ := c.at_ r
    exact ⟨a, dx, fs, e, g2.fh _ _ h, l, F2, v, x, rfl, g2.fh, r, p, fun w F' H' g k => q w F' H' (g2.trans g) k⟩
theorem ev_meth1 {C : Addr} {m : Str} {Pre : α → β → Prop} {f : α → β → γ} [c : IsI R C m] (ha : Ev R ta σ F H x) (hb : Ev S tb σ F H y) (p : Pre x y) (m' : Mn R := by infer_instance) : Ev T (tMeth C m (Sp2 R S Pre T f) [] E ta (tCons tb tNil)) σ F H (f x y) := fun F1 H1 g1 Q q =>
  ha F1 H1 g1 _ fun v F2 H2 g2 r => by
    obtain ⟨a, dx, fs, e, h, l⟩ := c.at_ r
    exact ⟨a, dx, fs, e, g2.fh _ _ h, l, hb F2 H2 (g1.trans g2) _ fun w F3 H3 g3 r3 => ⟨F3, v, w, x, y, rfl, g3.fh, m'.mono g3.ff r, r3, p, fun w F' H' g k => q w F' H' ((g2.trans g3).trans g) k⟩⟩
theorem ev_meth2 {C : Addr} {m : Str} {Pre : α → β → γ → Prop} {f : α → β → γ → δ} [c : IsI R C m] (ha : Ev R ta σ F H x) (hb : Ev S tb σ F H y) (hc : Ev T tc σ F H z) (p : Pre x y z) (m' : Mn R := by infer_instance) (n' : Mn S := by infer_instance) : Ev U (tMeth C m (Sp3 R S T Pre U f) [] E ta (tCons tb (tCons tc tNil))) σ F H (f x y z) := fun F1 H1 g1 Q q =>
  ha F1 H1 g1 _ fun v F2 H2 g2 r => by
    obtain ⟨a, dx, fs, e, h, l⟩ := c.at_ r
    exact ⟨a, dx, fs, e, g2.fh _ _ h, l, hb F2 H2 (g1.trans g2) _ fun w F3 H3 g3 r3 => hc F3 H3 ((g1.trans g2).trans g3) _ fun w' F4 H4 g4 r4 => ⟨F4, v, w, w', x, y, z, rfl, g4.fh, m'.mono (g3.ff.trans g4.ff) r, n'.mono g4.ff r3, r4, p, fun w F' H' g k => q w F' H' (((g2.trans g3).trans g4).trans g) k⟩⟩
/-- o.f -/
class IsF {α : Type} {β : outParam Type} (R : Rp α) (K : PySem.W.Frag) (f : Str) (S : outParam (Rp β)) (p : outParam (α → β)) : Prop where
  at_ : ∀ {F v x}, R F v x → ∃ a C dx fs w, v = .ref a ∧ F a = some (.ins C dx fs) ∧ Cls K C ∧ NoAttr K C f ∧ fs.lookup f = some w ∧ S F w (p x)
theorem ev_fld {f : Str} {p : α → β} (ha : Ev R ta σ F H x) (c : IsF R K f S p := by infer_instance) : Ev S (tFld K ta f) σ F H (p x) := fun F1 H1 g1 Q q =>
  ha F1 H1 g1 _ fun v F2 H2 g2 r => by
    obtain ⟨a, C, dx, fs, w, e, h, c1, c2, l, s⟩ := c.at_ r
    exact ⟨a, C, dx, fs, w, e, g2.fh _ _ h, c1, c2, l, q w F2 H2 g2 s⟩

/-! ### isinstance -/
theorem ev_isi {T : String} {b : Bool} (ha : Ev R ta σ F H x) (ht : ∀ F H v, Ex F H → R F v x → ∃ t, TyX K H v t ∧ PySem.W.kitOne K t (.type T) = some b) : Ev rBl (tCB (rIsi K) (tCons ta (tCons (tC (.ty T)) tNil))) σ F H b := fun F1 H1 g1 Q q =>
  ha F1 H1 g1 _ fun v F2 H2 g2 r => by
    obtain ⟨t, h1, h2⟩ := ht F2 H2 v g2.fh r
    exact ⟨v, .ty T, t, .type T, b, rfl, .ty T, h1, h2, q _ F2 H2 g2 rfl⟩
theorem kit_same {t : Value} : PySem.W.kitOne K t t = some true := if_pos (beq_self_eq_true _)
theorem ev_isIntInt {i : Int} (ha : Ev rInt ta σ F H i) : Ev rBl (tCB (rIsi K) (tCons ta (tCons (tC (.ty "int")) tNil))) σ F H true := ev_isi ha fun F H v _ r => ⟨_, .base (by cases (show v = _ from r); exact .int i), kit_same⟩
theorem ev_isIntBool {i : Int} (ha : Ev rInt ta σ F H i) : Ev rBl (tCB (rIsi K) (tCons ta (tCons (tC (.ty "bool")) tNil))) σ F H false := ev_isi ha fun F H v _ r => ⟨_, .base (by cases (show v = _ from r); exact .int i), kit_ty (by decide +kernel)⟩
theorem ev_isTup {xs : List α} (ha : Ev (rTup R) ta σ F H xs) : Ev rBl (tCB (rIsi K) (tCons ta (tCons (tC (.ty "tuple")) tNil))) σ F H true := ev_isi ha fun F H v e r => ⟨_, .base (by obtain ⟨a, vs, rfl, h, _⟩ := r; exact .tup (e _ _ h)), kit_same⟩
theorem ev_isLst {xs : List α} (ha : Ev (rLst R) ta σ F H xs) : Ev rBl (tCB (rIsi K) (tCons ta (tCons (tC (.ty "list")) tNil))) σ F H true := ev_isi ha fun F H v e r => ⟨_, .base (by obtain ⟨a, vs, rfl, h, _⟩ := r; exact .lst (e _ _ h)), kit_same⟩
theorem ev_isStr {s : Str} (ha : Ev rStr ta σ F H s) : Ev rBl (tCB (rIsi K) (tCons ta (tCons (tC (.ty "str")) tNil))) σ F H true := ev_isi ha fun F H v _ r => ⟨_, .base (by cases (show v = _ from r); exact .str s), kit_same⟩
end
end El
namespace El
open PySem PySem.Spec L2
theorem rpm {α : Type} {R : Rp α} {H H' : Hp} {v : V} {x : α} (e : Ex H H') (r : R H v x) (m : Mn R) : R H' v x := m.mono e r
theorem sn {D : Ends} {σ : St} {H : Hp} (h : D.nx σ H) : tNext D σ H := h
theorem sq {t u : TS} {D : Ends} {σ : St} {H : Hp} (h : t { D with nx := u D } σ H) : tSeq t u D σ H := h
theorem x_fld {K : PySem.W.Frag} {σ : St} {F H : Hp} {ta tv : TE} {α : Type} {R : Rp α} {x : α} {D : Ends} {f : Str} {a C dx : Addr} {fs : List (Str × V)} (e : Ex F H) (h : Ev R tv σ F H x) (ha : Ev rRef ta σ F H a) (ho : H a = some (.ins C dx fs)) (c : Cls K C) (n : NoAttr K C f) (l : fs.length < 1000)
    (k : ∀ v F' H', Gr M0 F H F' H' → R F' v x → H' a = some (.ins C dx fs) → D.nx σ (upd H' a (.ins C dx (putF f v fs)))) (m : Mn R := by infer_instance) : sFld K ta tv f D σ H :=
  h F H (.refl e) _ fun v F1 H1 g1 r1 => ha F1 H1 g1 _ fun w F2 H2 g2 r2 => ⟨a, C, dx, fs, r2, g2.hx _ _ (g1.hx _ _ ho), c, n, l, k v F2 H2 (g1.trans g2) (m.mono g2.ff r1) (g2.hx _ _ (g1.hx _ _ ho))⟩
end El

set_option Elab.async false
set_option linter.all false
set_option maxRecDepth 100000
set_option maxHeartbeats 2000000
namespace El
open PySem PySem.Spec L2
/-! ### len of an instance with its own __len__ -/
def rLenOwn (C : Addr) (sp : Sp) (E : XK) : List V → Hp → VK → Prop := fun xs H Q => ∃ a dx fs, xs = [V.ref a] ∧ H a = some (.ins C dx fs) ∧ sp [.ref a] H (fun v H' => ∃ n : Int, v = .int n ∧ 0 ≤ n ∧ n < 2 ^ 63 ∧ Q v H') E
theorem call_lenOwn {X : Cx} {CX : CXT} {n : Nat} {C f : Addr} {fd : FuncData} {ps : List Str} {sp : Sp} {E : XK} (F : FnOk X.prog X.w X.K X.mg X.base CX n f fd ps sp) (hr : Room (n + 1) X.A) (hs : PySem.W.findIn X.K (.ref C) "__len__" = some (some (.ref f))) (hf : PySem.W.isFn X.K (.ref f) = true)
    (hb : Binds X.K fd ps []) (hx : Passes CX X E) : CallR X (.builtin "len") (rLenOwn C sp E) := by
  intro pins s σ H xs us Q I r h
  obtain ⟨a, dx, fs, rfl, ha, hsp⟩ := h
  cases r with
  | cons r1 r2 =>
    cases r2
    cases r1
    obtain ⟨mA, J, _⟩ := ins_get I.hok ha
    obtain ⟨od, J, _⟩ := J.look
    obtain ⟨m, hF⟩ := I.fr
    refine PySem.W.len_K hF I.ok.mod.kin J hs hf ?_
    have e0 : Env0 X.prog X.w X.K X.mg X.base X.A.in1 X.stack s H := by
      have e := I.env0
      exact ⟨e.frames, e.mod, e.bs, e.bsz, e.funs, e.frf, e.hok, e.bare⟩
    have hl := F.len _ _ _ _ hsp
    have r2 : Vals [V.ref a] [Value.ref a] := .cons rfl .nil
    refine wpAny_call (codeAny_mono (F.run X.A.in1 X.stack s H ⟨[.ref a], []⟩ [.ref a] [.ref a] _ E hr.in1 e0 (by
      have := hb s [.ref a] I.kIn (by simpa using hl)
      simpa using this) r2 hsp) fun r s' hq => ?_)
    cases r with
    | error e => exact hx pins σ H s e s' I hq
    | ok fl =>
      cases fl with
      | ret w =>
        obtain ⟨z, H', I', rz, k, ez, h0, h1, q⟩ := I.after hq
        subst ez
        obtain ⟨t, rfl⟩ := rz
        exact ⟨⟨h0, h1⟩, .int k, H', I'.tok _, ⟨_, rfl⟩, q⟩
      | next => exact False.elim hq
      | brk => exact False.elim hq
      | cont => exact False.elim hq
section
variable {K : PySem.W.Frag} {σ : St} {F H : Hp} {ta : TE} {α : Type} {R : Rp α} {x : α} {E : XK}
theorem ev_lenOwn {C : Addr} {f : α → Nat} [c : IsI R C "__len__"] (ha : Ev R ta σ F H x) (hz : f x < 2 ^ 62) : Ev rInt (tCB (rLenOwn C (Sp1 R (fun _ => True) rNat f) E) (tCons ta tNil)) σ F H (f x : Int) := fun F1 H1 g1 Q q =>
  ha F1 H1 g1 _ fun v F2 H2 g2 r => by
    obtain ⟨a, dx, fs, e, h, l⟩ := c.at_ r
    subst e
    exact ⟨a, dx, fs, rfl, g2.fh _ _ h, F2, _, x, rfl, g2.fh, r, True.intro, fun w F' H' g k => ⟨(f x : Int), k, by omega, by omega, q w F' H' (g2.trans g) k⟩⟩
end
/-! ### len(set(xs)) of ints -/
def tLenSetJ (K : PySem.W.Frag) (ta : TE) : TE := fun σ H Q => ta σ H fun x H1 => ∃ (l : Addr) (ns : List Int), x = .ref l ∧ SqT K H1 l (ns.map V.int) ∧ ns.length ≤ 4000 ∧ ∀ out : List Int, out.Nodup → (∀ k, k ∈ out ↔ k ∈ ns) → Q (.int (out.length : Nat)) H1
open PyProof.Rows in
theorem pe_lenSetJ {X : Cx} {a : Expr} {ta : TE} {p p2 q pos : Pos} (hg : Gl X "len") (hm : X.mg "len" = none) (hg2 : Gl X "set") (hm2 : X.mg "set" = none) (ha : PE X a ta) (hc : X.calm = true := by rfl)
    (na : starEach [a] X.env = (false, eval a X.env) :: starEach [] X.env := by rfl) : PE X (.Call (.Name "len" p) [.Call (.Name "set" p2) [a] [] q] [] pos) (tLenSetJ X.K ta) := by
  refine ⟨fun pins s σ H Q I h => ?_⟩
  refine Call_ (ld_blt I hg hm boot_len ?_)
  refine PyProof.Rows.callWith_builtin1 (PyProof.Rows.args_cons ?_ rfl) rfl rfl
  refine Call_ (ld_blt I hg2 hm2 boot_set ?_)
  refine PyProof.Rows.callWith_type1 (PyProof.Rows.args_cons (thn (ha.run pins s σ H _ I h) fun v s1 ⟨x, H1, I1, r1, q1⟩ => PyProof.Rows.args_nil ?_) na) na rfl
  obtain ⟨l, ns, rfl, hq, hl, q1⟩ := q1
  cases r1
  obtain ⟨its, r, pt, hz⟩ := I1.tuple hq
  have hi : PyProof.Rows.IntsAre its.toArray.toList ns := ints_of_vals r
  refine call_set_tupI ns (I1.ok.hd hc) (show s1.heap.IsTuple l its.toArray from pt) hi (by unfold scanBound; omega) fun h' tk c R1 hcn k => ?_
  refine PyProof.Rows.args_nil ?_
  obtain ⟨o, es, ep, t, ho, hex, hdt, g, nd, hm3, hb, hf, hn, hr, hl2⟩ := R1
  have I2 : Inv X pins σ H1 { s1 with heap := h', toks := tk } := I1.kept fun b o e => k b o e
  have hlen : (es.toList.map keyOf).length = es.size := by rw [List.length_map, Array.length_toList]
  refine call_len_set ho hex hdt hf (by omega) ⟨.int es.size, H1, I2.tok _, ⟨_, rfl⟩, ?_⟩
  have := q1 (es.toList.map keyOf) nd fun j => by rw [← hm3 j, decide_eq_true_eq]
  rw [hlen] at this
  exact this
/-- the things of a list, each once -/
def uniq (ns : List Nat) : List Nat := ns.foldr (fun n l => if n ∈ l then l else n :: l) []
theorem mem_uniq {k : Nat} : ∀ {ns : List Nat}, k ∈ uniq ns ↔ k ∈ ns
  | [] => Iff.rfl
  | n :: ns => by
    show k ∈ (if n ∈ uniq ns then uniq ns else n :: uniq ns) ↔ _
    split
    · rename_i h
      rw [mem_uniq, List.mem_cons]
      exact ⟨.inr, fun z => z.elim (fun e => by rw [e]; exact mem_uniq.mp h) id⟩
    · rw [List.mem_cons, List.mem_cons, mem_uniq]
theorem nodup_uniq : ∀ ns : List Nat, (uniq ns).Nodup
  | [] => List.nodup_nil
  | n :: ns => by
    show (if n ∈ uniq ns then uniq ns else n :: uniq ns).Nodup
    split
    · exact nodup_uniq ns
    · rename_i h
      exact List.nodup_cons.mpr ⟨h, nodup_uniq ns⟩
theorem nodup_len_of_mem {α : Type} [DecidableEq α] {as bs : List α} (ha : as.Nodup) (hb : bs.Nodup) (h : ∀ k, k ∈ as ↔ k ∈ bs) : as.length = bs.length := by
  have p : as.Perm bs := (List.perm_ext_iff_of_nodup ha hb).mpr h
  exact p.length_eq
section
variable {K : PySem.W.Frag} {σ : St} {F H : Hp} {ta : TE}
theorem ev_lenSet {ns : List Nat} (ha : Ev (rTup rNat) ta σ F H ns) (hz : ns.length ≤ 4000) : Ev rInt (tLenSetJ K ta) σ F H ((uniq ns).length : Int) := fun F1 H1 g1 Q q =>
  ha F1 H1 g1 _ fun v F2 H2 g2 ⟨a, vs, e, hl, p⟩ => ⟨a, ns.map fun n : Nat => (n : Int), e, by rw [← nats_paired p]; exact SqT.of (g2.fh _ _ hl), by rw [List.length_map]; exact hz, fun out nd hm => by
    have : out.length = ((uniq ns).map fun n : Nat => (n : Int)).length := by
      refine nodup_len_of_mem nd ?_ fun k => ?_
      · refine List.Pairwise.map _ ?_ (nodup_uniq ns)
        intro a b h e
        exact h (by omega)
      · rw [hm, List.mem_map, List.mem_map]
        exact ⟨fun ⟨n, h, e⟩ => ⟨n, mem_uniq.mpr h, e⟩, fun ⟨n, h, e⟩ => ⟨n, mem_uniq.mp h, e⟩⟩
    rw [this, List.length_map]
    exact q _ F2 H2 g2 rfl⟩
end
/-! ### the laws' own source of draws -/
/-- a source at a: so many more draws may be made of it -/
def Src (H : Hp) (a : Addr) (N : Nat) : Prop := ∃ n c k : Int, H a = some (.lst [.int n, .int c, .int k]) ∧ 0 ≤ n ∧ 0 ≤ c ∧ c < 2147483648 ∧ 0 ≤ k ∧ k + N ≤ 1099511627776
theorem Src.le {H : Hp} {a : Addr} {N M : Nat} (h : Src H a N) (l : M ≤ N) : Src H a M := by
  obtain ⟨n, c, k, h1, h2, h3, h4, h5, h6⟩ := h
  exact ⟨n, c, k, h1, h2, h3, h4, h5, by omega⟩
theorem Src.hn {H : Hp} {a : Addr} {N : Nat} (h : Src H a N) : H a ≠ none := by
  obtain ⟨n, c, k, h1, _⟩ := h
  rw [h1]
  exact fun z => nomatch z
theorem Src.ex {H H' : Hp} {a : Addr} {N : Nat} (h : Src H a N) (e : H' a = H a) : Src H' a N := by
  unfold Src
  rw [e]
  exact h
theorem Src.gr {F H F' H' : Hp} {a : Addr} {N : Nat} (h : Src H a N) (g : Gr M0 F H F' H') : Src H' a N := by
  obtain ⟨n, c, k, h1, h2⟩ := h
  exact ⟨n, c, k, g.hx _ _ h1, h2⟩
theorem Src.upd {H : Hp} {a b : Addr} {o : HO} {N : Nat} (h : Src H a N) (e : a ≠ b) : Src (upd H b o) a N := h.ex (upd_ne e)
end El

set_option Elab.async false
set_option linter.all false
set_option maxRecDepth 100000
set_option maxHeartbeats 2000000
namespace El
open PySem PySem.Spec L2
section
variable {K : PySem.W.Frag} {σ : St} {F H F' H' : Hp} {ta tb tc te tl : TE} {tt t u : TT} {α β γ δ ε : Type} {R : Rp α} {S : Rp β} {xs : List α} {n : Nat} {vs : List Nat}
theorem ev_lcm (f : α → β) (h : Ev (rLst R) tl σ F H xs) (hz : xs.length ≤ 1000000) (hw : ∀ v, wipe ((wipe σ vs).set n (some v)) vs = wipe σ vs)
    (he : ∀ (i : Nat) x v F1 H1, xs[i]? = some x → Gr M0 F H F1 H1 → R F1 v x → Ev S te ((wipe σ vs).set n (some v)) F1 H1 (f x)) (m : Mn R := by infer_instance) (m' : Mn S := by infer_instance) : Ev (rLst S) (tLc (iList K tl) (gName n) tYes te vs) σ F H (xs.map f) :=
  ev_lc h (List.length_map _) hz hw fun i x y v F1 H1 hx hy g r => by
    rw [List.getElem?_map, hx] at hy
    cases hy
    exact he i x v F1 H1 hx g r
theorem ev_lcTm (f : α → β) (h : Ev (rTup R) tl σ F H xs) (hz : xs.length ≤ 1000000) (hw : ∀ v, wipe ((wipe σ vs).set n (some v)) vs = wipe σ vs)
    (he : ∀ (i : Nat) x v F1 H1, xs[i]? = some x → Gr M0 F H F1 H1 → R F1 v x → Ev S te ((wipe σ vs).set n (some v)) F1 H1 (f x)) (m : Mn R := by infer_instance) (m' : Mn S := by infer_instance) : Ev (rLst S) (tLc (iTup K tl) (gName n) tYes te vs) σ F H (xs.map f) :=
  ev_lcT h (List.length_map _) hz hw fun i x y v F1 H1 hx hy g r => by
    rw [List.getElem?_map, hx] at hy
    cases hy
    exact he i x v F1 H1 hx g r
theorem ev_lcRm (f : Nat → β) {j : Nat} {ta : TE} (h : Ev rInt ta σ F H (n : Int)) (hz : n ≤ 1000000) (hw : ∀ v, wipe ((wipe σ vs).set j (some v)) vs = wipe σ vs)
    (he : ∀ i F1 H1, i < n → Gr M0 F H F1 H1 → Ev S te ((wipe σ vs).set j (some (.int (i : Int)))) F1 H1 (f i)) (m' : Mn S := by infer_instance) : Ev (rLst S) (tLc (iRng1 (tCons ta tNil)) (gName j) tYes te vs) σ F H ((List.range n).map f) :=
  ev_lcR h (by rw [List.length_map, List.length_range]) hz hw fun i y F1 H1 hi hy g => by
    rw [List.getElem?_map, List.getElem?_range hi] at hy
    cases hy
    exact he i F1 H1 hi g
theorem mem_of_at {xs : List α} {i : Nat} {x : α} (h : xs[i]? = some x) : x ∈ xs := List.mem_of_getElem? h
end

/-! ### turns -/
structure Tn where
  many : Nat
  maps : List (List Nat)
  h0 : 1 ≤ many
  h1 : many ≤ 32
  h2 : 1 ≤ maps.length
  h3 : maps.length ≤ 200
  h4 : ∀ m ∈ maps, m.length = many ∧ ∀ x ∈ m, x < many
def rTurns (C : Addr) : Rp Tn := fun H v T => ∃ a dx l, v = .ref a ∧ H a = some (.ins C dx [("many", .int (T.many : Int)), ("maps", l)]) ∧ rLst (rTup rNat) H l T.maps
instance {C : Addr} : Mn (rTurns C) := ⟨fun e ⟨a, dx, l, h1, h2, h3⟩ => ⟨a, dx, l, h1, e _ _ h2, Mn.mono e h3⟩⟩
instance {C : Addr} : NotN (rTurns C) := ⟨fun ⟨_, _, _, h, _⟩ e => by rw [h] at e; cases e⟩
instance {C : Addr} : IsI (rTurns C) C "__len__" := ⟨fun ⟨a, dx, l, h1, h2, h3⟩ => ⟨a, dx, _, h1, h2, rfl⟩⟩
theorem fld_many {K : PySem.W.Frag} {C : Addr} (c : Cls K C) (n : NoAttr K C "many") : IsF (rTurns C) K "many" rNat Tn.many := ⟨fun ⟨a, dx, l, h1, h2, h3⟩ => ⟨a, C, dx, _, _, h1, h2, c, n, rfl, rfl⟩⟩
theorem fld_maps {K : PySem.W.Frag} {C : Addr} (c : Cls K C) (n : NoAttr K C "maps") : IsF (rTurns C) K "maps" (rLst (rTup rNat)) Tn.maps := ⟨fun ⟨a, dx, l, h1, h2, h3⟩ => ⟨a, C, dx, _, _, h1, h2, c, n, rfl, h3⟩⟩
/-- what C(..) makes of turns: the promise of __init__ -/
def SpTurns (C : Addr) : Sp := fun vs H Q _ => ∃ (F : Hp) (a dx : Addr) (l : V) (T : Tn), vs = [.ref a, .int (T.many : Int), l] ∧ Ex F H ∧ F a = none ∧ H a = some (.ins C dx []) ∧ rLst (rTup rNat) F l T.maps ∧
  ∀ F' H', Gr (M1 a) F H F' H' → rTurns C F' (.ref a) T → Q .non H'
theorem ev_Turns {σ : St} {F H : Hp} {ta tb : TE} {C : Addr} {T : Tn} {E : XK} (ha : Ev rInt ta σ F H (T.many : Int)) (hb : Ev (rLst (rTup rNat)) tb σ F H T.maps) : Ev (rTurns C) (tMake C (SpTurns C) [] E (tCons ta (tCons tb tNil))) σ F H T := fun F1 H1 g1 Q q =>
  ha F1 H1 g1 _ fun v F2 H2 g2 r => hb F2 H2 (g1.trans g2) _ fun w F3 H3 g3 r3 => fun x dx nx ndx nex => by
    cases (show v = _ from r)
    have h1 : (upd H3 dx (.own x)) x = none := by rw [upd_ne nex.symm]; exact nx
    have e1 : Ex F3 (upd (upd H3 dx (.own x)) x (.ins C dx [])) := (g3.fh.mut (g3.fh.free ndx)).mut (g3.fh.free nx)
    refine ⟨F3, x, dx, w, T, rfl, e1, g3.fh.free nx, upd_same, r3, fun F' H' g k => ⟨rfl, q _ F' H' ((g2.trans g3).trans ⟨g.ff, g.fh, fun b o _ h => ?_, fun b _ h n => ?_, fun b h => ?_⟩) k⟩⟩
    · have b1 : b ≠ x := fun z => by subst z; rw [nx] at h; cases h
      have b2 : b ≠ dx := fun z => by subst z; rw [ndx] at h; cases h
      exact g.hh b o b1 (by rw [upd_ne b1, upd_ne b2]; exact h)
    · have b1 : b ≠ x := fun z => h (z ▸ nx)
      have b2 : b ≠ dx := fun z => h (z ▸ ndx)
      exact g.nw b b1 (by rw [upd_ne b1, upd_ne b2]; exact h) n
    · have b1 : b ≠ x := fun z => h (z ▸ nx)
      have b2 : b ≠ dx := fun z => h (z ▸ ndx)
      exact g.dm b (by rw [upd_ne b1, upd_ne b2]; exact h)
/-- mirrors -/
def idMap (n : Nat) : List Nat := List.range n
def thenM (a b : List Nat) : List Nat := a.map fun x => b.getD x 0
def metB (a : List Nat) : Bool := decide ((uniq a).length = 1)
def mapFrom (T : Tn) (m : List Nat) (w : List Nat) : List Nat := w.foldl (fun m s => thenM m (T.maps.getD s [])) m
def mapW (T : Tn) (w : List Nat) : List Nat := mapFrom T (idMap T.many) w
/-- a map of the turns' places -/
def IsMap (n : Nat) (m : List Nat) : Prop := m.length = n ∧ ∀ x ∈ m, x < n
theorem isMap_id (n : Nat) : IsMap n (idMap n) := ⟨List.length_range, fun x h => List.mem_range.mp h⟩
theorem isMap_then {n : Nat} {a b : List Nat} (ha : IsMap n a) (hb : IsMap n b) : IsMap n (thenM a b) := by
  refine ⟨by unfold thenM; rw [List.length_map]; exact ha.1, fun x h => ?_⟩
  obtain ⟨y, hy, rfl⟩ := List.mem_map.mp h
  have hl : y < b.length := by rw [hb.1]; exact ha.2 y hy
  rw [List.getD_eq_getElem?_getD, List.getElem?_eq_getElem hl]
  exact hb.2 _ (List.getElem_mem hl)
theorem Tn.isMap (T : Tn) {s : Nat} (h : s < T.maps.length) : IsMap T.many (T.maps.getD s []) := by
  rw [List.getD_eq_getElem?_getD, List.getElem?_eq_getElem h]
  exact T.h4 _ (List.getElem_mem h)
theorem isMap_from {T : Tn} : ∀ {w : List Nat} {m : List Nat}, IsMap T.many m → (∀ s ∈ w, s < T.maps.length) → IsMap T.many (mapFrom T m w)
  | [], _, h, _ => h
  | s :: w, m, h, hs => isMap_from (w := w) (m := thenM m (T.maps.getD s [])) (isMap_then h (T.isMap (hs s List.mem_cons_self))) fun s' h' => hs s' (List.mem_cons_of_mem _ h')
theorem isMap_mapW {T : Tn} {w : List Nat} (hs : ∀ s ∈ w, s < T.maps.length) : IsMap T.many (mapW T w) := isMap_from (isMap_id _) hs
theorem getD_at {α : Type} {xs : List α} {i : Nat} {d : α} (h : i < xs.length) : xs[i]? = some (xs.getD i d) := by
  rw [List.getD_eq_getElem?_getD, List.getElem?_eq_getElem h]
  rfl
end El

set_option Elab.async false
set_option linter.all false
set_option maxRecDepth 100000
set_option maxHeartbeats 2000000
namespace El
open PySem PySem.Spec L2
section
variable {X : Cx} (K : PySem.W.Frag)
theorem kfld {e : Expr} {f : Str} {pos : Pos} {ta : TE} (he : PE X e ta) (hb : attributeBase e f X.env (eval e X.env) = eval e X.env) (hK : X.K = K := by rfl) : PE X (.Attribute e f pos) (tFld K ta f) := by
  subst hK
  exact pe_fld he hb
theorem kset {o value : Expr} {f : Str} {pos pos' : Pos} {ta tv : TE} (ha : PE X o ta) (hv : PE X value tv) (hs : swapsWith value (some (.Attribute o f pos')) pos.line X.env = pure false) (hK : X.K = K := by rfl) : PS X (.Assign [.Attribute o f pos'] value pos) (sFld K ta tv f) := by
  subst hK
  exact ps_fld ha hv hs
theorem kaug {o value : Expr} {f : Str} {pos tpos : Pos} {ta tv : TE} {op : Operator} {rd : V → V → Hp → VK → Prop} (ha : PE X o ta) (hv : PE X value tv) (hop : InOp X op rd) (hK : X.K = K := by rfl) : PS X (.AugAssign (.Attribute o f tpos) op value pos) (sFldAug K ta tv rd f) := by
  subst hK
  exact ps_fldaug ha hv hop
theorem klist {tg l : Expr} {tl : TE} (hl : PE X l tl) (hK : X.K = K := by rfl) : PI X tg l (iList K tl) := by
  subst hK
  exact pi_list hl
theorem ktup {tg l : Expr} {tl : TE} (hl : PE X l tl) (hK : X.K = K := by rfl) : PI X tg l (iTup K tl) := by
  subst hK
  exact pi_tup hl
theorem kptup {es : List Expr} {k : Nat} {t : TGs} {n : Nat} {pos : Pos} (hc : X.calm = true) (h : PGs X es t)
    (hn : (assignEach es X.env).length = n := by rfl) (hst : (assignEach es X.env).findIdx? (·.1) = none := by rfl) (hK : X.K = K := by rfl) : PG X (.Tuple es k pos) (gTup K n t) := by
  subst hK
  exact pg_tup hc h hn hst
theorem klenset {a : Expr} {ta : TE} {p p2 q pos : Pos} (hg : Gl X "len") (hm : X.mg "len" = none) (hg2 : Gl X "set") (hm2 : X.mg "set" = none) (ha : PE X a ta) (hc : X.calm = true := by rfl)
    (na : starEach [a] X.env = (false, eval a X.env) :: starEach [] X.env := by rfl) (hK : X.K = K := by rfl) : PE X (.Call (.Name "len" p) [.Call (.Name "set" p2) [a] [] q] [] pos) (tLenSetJ K ta) := by
  subst hK
  exact pe_lenSetJ hg hm hg2 hm2 ha hc na
theorem kenum {e : Expr} {ta : TA} {p pos tpos : Pos} {elts : List Expr} {kk : Nat} (hg : Gl X "enumerate") (hm : X.mg "enumerate" = none) (ha : PA X [e] ta) (hs : starEach [e] X.env = [(false, eval e X.env)] := by rfl) (hK : X.K = K := by rfl) :
    PI X (.Tuple elts kk tpos) (.Call (.Name "enumerate" p) [e] [] pos) (iEnum K ta) := by
  subst hK
  exact pi_enum hg hm ha hs
theorem kbm0 {T : String} {name : Str} {id : String} {r : V → List V → Hp → VK → Prop} {o : Expr} {to : TE} {apos cpos : Pos} (pa : PlainAttrs T) (slot : Slot T name id) (hty : typeOf (.builtin id) = pure (.type "method_descriptor")) (hm : MtR X id r) (ho : PE X o to)
    (hbase : attributeBase o name X.env (eval o X.env) = eval o X.env := by rfl) (hline : (apos.endLine == cpos.line) = true := by rfl) (hK : X.K = K := by rfl) : PE X (.Call (.Attribute o name apos) [] [] cpos) (tBM0 K T r to) := by
  subst hK
  exact pe_bm0 pa slot hty hm ho hbase hline
theorem kbm {T : String} {name : Str} {id : String} {r : V → List V → Hp → VK → Prop} {o e : Expr} {es : List Expr} {to : TE} {t : TA} {apos cpos : Pos} (pa : PlainAttrs T) (slot : Slot T name id) (hty : typeOf (.builtin id) = pure (.type "method_descriptor")) (hm : MtR X id r) (ho : PE X o to) (ha : PA X (e :: es) t)
    (hbase : attributeBase o name X.env (eval o X.env) = eval o X.env := by rfl)
    (hfew : ((backTo cpos (starEach (e :: es) X.env)).all (fun x => !x.1) && (backToKw cpos (keywordEach [] X.env)).all (fun x => x.1.isSome)
      && decide ((e :: es).length + ([] : List Keyword).length + (if ([] : List Keyword).isEmpty then 0 else 1) < 30)) = true := by rfl) 
    (hline : (apos.endLine == cpos.line) = true := by rfl) (hs : starEach (e :: es) X.env = (false, eval e X.env) :: starEach es X.env := by rfl) (hplain : (backTo cpos (starEach es X.env)).any (·.1) = false := by rfl) (hK : X.K = K := by rfl) : PE X (.Call (.Attribute o name apos) (e :: es) [] cpos) (tBM K T r to t) := by
  subst hK
  exact pe_bm pa slot hty hm ho ha hbase hfew hline hs hplain
end
end El

namespace El
open PySem PySem.Spec L2
section
variable {K : PySem.W.Frag} {σ : St} {F H F' H' : Hp} {ta tb tc te tl : TE} {α β : Type} {R : Rp α} {S : Rp β} {x : α} {y : β}
/-- o.f of an instance that may change -/
theorem ev_fldM {f : Str} {a C dx : Addr} {fs : List (Str × V)} {w : V} (ha : Ev rRef ta σ F H a) (ho : H a = some (.ins C dx fs)) (c : Cls K C) (n : NoAttr K C f) (l : fs.lookup f = some w) (s : S F w y) (m : Mn S := by infer_instance) : Ev S (tFld K ta f) σ F H y := fun F1 H1 g1 Q q =>
  ha F1 H1 g1 _ fun v F2 H2 g2 r => ⟨a, C, dx, fs, w, r, g2.hx _ _ (g1.hx _ _ ho), c, n, l, q w F2 H2 g2 (m.mono (g1.ff.trans g2.ff) s)⟩
end
/-! ### draws -/
structure DrAt (CD CT : Addr) (F H : Hp) (a l : Addr) (T : Tn) (m : List Nat) (n : Nat) (ws : List V) : Prop where
  ne : a ≠ l
  fa : F a = none
  fl : F l = none
  ha : ∃ dx tv fv, H a = some (.ins CD dx [("turns", tv), ("found", fv), ("many", .int (n : Int)), ("told", .ref l)]) ∧ rTurns CT F tv T ∧ rTup rNat F fv m
  hl : H l = some (.lst ws)
theorem DrAt.gr {CD CT : Addr} {F H F' H' : Hp} {a l : Addr} {T : Tn} {m : List Nat} {n : Nat} {ws : List V} (d : DrAt CD CT F H a l T m n ws) (g : Gr M0 F H F' H') : DrAt CD CT F' H' a l T m n ws := by
  obtain ⟨ne, fa, fl, ⟨dx, tv, fv, h1, h2, h3⟩, hl⟩ := d
  exact ⟨ne, g.nn h1 fa, g.nn hl fl, ⟨dx, tv, fv, g.hx _ _ h1, Mn.mono g.ff h2, Mn.mono g.ff h3⟩, g.hx _ _ hl⟩
def drStep (T : Tn) (p : List Nat × Nat) (s : Nat) : List Nat × Nat := if metB p.1 = true then p else (thenM (T.maps.getD s []) p.1, p.2 + 1)
def drRun (T : Tn) (w : List Nat) : List Nat × Nat := w.foldl (drStep T) (idMap T.many, 0)
def plc (m : List Nat) : Option Nat := if metB m = true then some (m.headD 0) else none
def drawnM (T : Tn) (w : List Nat) : Option (Nat × Nat) := match plc (drRun T w).1 with
  | none => none
  | some p => some (p, (drRun T w).2)
/-- what begins a draw -/
def SpDraw (CD CT : Addr) : Sp := fun vs H Q _ => ∃ (F : Hp) (a dx : Addr) (tv : V) (T : Tn), vs = [.ref a, tv] ∧ Ex F H ∧ F a = none ∧ H a = some (.ins CD dx []) ∧ rTurns CT F tv T ∧
  ∀ l F' H', Gr (M1 a) F H F' H' → H l = none → DrAt CD CT F' H' a l T (idMap T.many) 0 [] → Q .non H'
def SpElder (CD CT : Addr) : Sp := fun vs H Q _ => ∃ (F : Hp) (a l : Addr) (T : Tn) (m : List Nat) (n : Nat) (ws : List V) (s : Nat), vs = [.ref a, .int (s : Int)] ∧ Ex F H ∧ DrAt CD CT F H a l T m n ws ∧ IsMap T.many m ∧ s < T.maps.length ∧ ws.length ≤ 1000000 ∧
  ∀ v F' H', Gr (fun b => b = a ∨ b = l) F H F' H' → DrAt CD CT F' H' a l T (drStep T (m, n) s).1 (drStep T (m, n) s).2 (ws ++ [.int (s : Int)]) → rOpt rNat F' v (plc (drStep T (m, n) s).1) → Q v H'
def SpPlace (CD CT : Addr) : Sp := fun vs H Q _ => ∃ (F : Hp) (a l : Addr) (T : Tn) (m : List Nat) (n : Nat) (ws : List V), vs = [.ref a] ∧ Ex F H ∧ DrAt CD CT F H a l T m n ws ∧ IsMap T.many m ∧
  ∀ v F' H', Gr M0 F H F' H' → rOpt rNat F' v (plc m) → Q v H'
def SpUsed (CD CT : Addr) : Sp := fun vs H Q _ => ∃ (F : Hp) (a l : Addr) (T : Tn) (m : List Nat) (n : Nat) (ws : List V), vs = [.ref a] ∧ Ex F H ∧ DrAt CD CT F H a l T m n ws ∧
  ∀ v F' H', Gr M0 F H F' H' → rNat F' v n → Q v H'
section
variable {K : PySem.W.Frag} {σ : St} {F H F' H' : Hp} {ta : TE} {CD CT a l : Addr} {T : Tn} {m : List Nat} {n : Nat} {ws : List V} {E : XK}
theorem ev_place (ha : Ev rRef ta σ F H a) (d : DrAt CD CT F H a l T m n ws) (hm : IsMap T.many m) : Ev (rOpt rNat) (tMeth CD "place" (SpPlace CD CT) [] E ta tNil) σ F H (plc m) := fun F1 H1 g1 Q q =>
  ha F1 H1 g1 _ fun v F2 H2 g2 r => by
    cases (show v = _ from r)
    have d2 := d.gr (g1.trans g2)
    obtain ⟨dx, tv, fv, h1, h2, h3⟩ := id d2.ha
    exact ⟨a, dx, _, rfl, h1, rfl, F2, a, l, T, m, n, ws, rfl, g2.fh, d2, hm, fun v F' H' g k => q v F' H' (g2.trans g) k⟩
theorem ev_used (ha : Ev rRef ta σ F H a) (d : DrAt CD CT F H a l T m n ws) : Ev rNat (tMeth CD "used" (SpUsed CD CT) [] E ta tNil) σ F H n := fun F1 H1 g1 Q q =>
  ha F1 H1 g1 _ fun v F2 H2 g2 r => by
    cases (show v = _ from r)
    have d2 := d.gr (g1.trans g2)
    obtain ⟨dx, tv, fv, h1, h2, h3⟩ := id d2.ha
    exact ⟨a, dx, _, rfl, h1, rfl, F2, a, l, T, m, n, ws, rfl, g2.fh, d2, fun v F' H' g k => q v F' H' (g2.trans g) k⟩
end
theorem isMap_step {T : Tn} {p : List Nat × Nat} {s : Nat} (h : IsMap T.many p.1) (hs : s < T.maps.length) : IsMap T.many (drStep T p s).1 := by
  unfold drStep
  split
  · exact h
  · exact isMap_then (T.isMap hs) h
theorem isMap_run {T : Tn} {w : List Nat} (hs : ∀ s ∈ w, s < T.maps.length) : IsMap T.many (drRun T w).1 := by
  have : ∀ (w : List Nat) (p : List Nat × Nat), IsMap T.many p.1 → (∀ s ∈ w, s < T.maps.length) → IsMap T.many (w.foldl (drStep T) p).1 := fun w => by
    induction w with
    | nil => exact fun p h _ => h
    | cons s w ih => exact fun p h hs => ih _ (isMap_step h (hs s List.mem_cons_self)) fun s' h' => hs s' (List.mem_cons_of_mem _ h')
  exact this w _ (isMap_id _) hs
theorem headD_lt {n : Nat} {m : List Nat} (h : IsMap n m) (h0 : 1 ≤ n) : m.headD 0 < n := by
  cases m with
  | nil => have := h.1; simp at this; omega
  | cons a m => exact h.2 a List.mem_cons_self
theorem at0 {m : List Nat} (h : 1 ≤ m.length) : atI m 0 = some (m.headD 0) := by
  cases m with
  | nil => simp at h
  | cons a m => exact atI_natL (n := 0) rfl
end El
namespace El
open PySem PySem.Spec L2
theorem Gr.seq0 {M : Addr → Prop} {F H F1 H1 F2 H2 : Hp} (g : Gr M0 F H F1 H1) (g2 : Gr M F1 H1 F2 H2) (n : ∀ b, M b → H b = none) : Gr M0 F H F2 H2 where
  ff := g.ff.trans g2.ff
  fh := g2.fh
  hh := fun b o _ h => g2.hh b o (fun z => by rw [n b z] at h; cases h) (g.hx b o h)
  nw := fun b _ h f => g2.nw b (fun z => h (n b z)) (g.dm b h) (g.nw b (fun z => z) h f)
  dm := fun b h => g2.dm b (g.dm b h)
/-- a new instance, its dict laid -/
theorem Gr.make {F H F' H' : Hp} {x dx C : Addr} (e : Ex F H) (nx : H x = none) (ndx : H dx = none) (nex : dx ≠ x) (g : Gr (M1 x) F (upd (upd H dx (.own x)) x (.ins C dx [])) F' H') : Gr M0 F H F' H' where
  ff := g.ff
  fh := g.fh
  hh := fun b o _ h => by
    have b1 : b ≠ x := fun z => by subst z; rw [nx] at h; cases h
    have b2 : b ≠ dx := fun z => by subst z; rw [ndx] at h; cases h
    exact g.hh b o b1 (by rw [upd_ne b1, upd_ne b2]; exact h)
  nw := fun b _ h n => by
    have b1 : b ≠ x := fun z => h (z ▸ nx)
    have b2 : b ≠ dx := fun z => h (z ▸ ndx)
    exact g.nw b b1 (by rw [upd_ne b1, upd_ne b2]; exact h) n
  dm := fun b h => by
    have b1 : b ≠ x := fun z => h (z ▸ nx)
    have b2 : b ≠ dx := fun z => h (z ▸ ndx)
    exact g.dm b (by rw [upd_ne b1, upd_ne b2]; exact h)
theorem Ex.make {F H : Hp} {x dx C : Addr} (e : Ex F H) (nx : H x = none) (ndx : H dx = none) : Ex F (upd (upd H dx (.own x)) x (.ins C dx [])) := (e.mut (e.free ndx)).mut (e.free nx)
/-! reading once -/
def roLoop (t : Tn) (long : Nat) (w : List Nat) : Nat → Nat → Option Nat → Option (Nat × Nat)
  | 0, _, _ => none
  | n + 1, k, none => roLoop t long w n (k + 1) (plc (mapW t ((w.drop (k * long)).take long)))
  | n + 1, k, some s => if metB (mapW t ((w.drop (k * long)).take long)) = true then some (s, k + 1) else roLoop t long w n (k + 1) (some ((mapW t ((w.drop (k * long)).take long)).getD s 0))
def readOnceM (t : Tn) (long : Nat) (w : List Nat) : Option (Nat × Nat) := roLoop t long w (w.length / long) 0 none
end El

set_option Elab.async false
set_option linter.all false
set_option maxRecDepth 100000
set_option maxHeartbeats 2000000
namespace El
open PySem PySem.Spec L2
/-! ### what draws of a source -/
def EvS {α : Type} (a : Addr) (c : Nat) (R : Rp α) (te : TE) (σ : St) (F H : Hp) (P : α → Prop) : Prop :=
  ∀ F1 H1 N, Gr (M1 a) F H F1 H1 → F1 a = none → Src H1 a (N + c) → ∀ Q : VK, (∀ v x F2 H2, Gr (M1 a) F1 H1 F2 H2 → F2 a = none → Src H2 a N → P x → R F2 v x → Q v H2) → te σ H1 Q
def EvTS (a : Addr) (c : Nat) (tt : TT) (σ : St) (F H : Hp) (P : Bool → Prop) : Prop :=
  ∀ F1 H1 N, Gr (M1 a) F H F1 H1 → F1 a = none → Src H1 a (N + c) → ∀ Q : Bool → Hp → Prop, (∀ b F2 H2, Gr (M1 a) F1 H1 F2 H2 → F2 a = none → Src H2 a N → P b → Q b H2) → tt σ H1 Q
def SpS0 (c : Nat) {β : Type} (S : Rp β) (P : β → Prop) : Sp := fun vs H Q _ => ∃ F a N, vs = [.ref a] ∧ Ex F H ∧ F a = none ∧ Src H a (N + c) ∧
  ∀ w y F' H', Gr (M1 a) F H F' H' → F' a = none → Src H' a N → P y → S F' w y → Q w H'
def SpS1 (c : Nat) {α β : Type} (R : Rp α) (Pre : α → Prop) (S : Rp β) (P : α → β → Prop) : Sp := fun vs H Q _ => ∃ F a N v x, vs = [.ref a, v] ∧ Ex F H ∧ F a = none ∧ Src H a (N + c) ∧ R F v x ∧ Pre x ∧
  ∀ w y F' H', Gr (M1 a) F H F' H' → F' a = none → Src H' a N → P x y → S F' w y → Q w H'
def SpS2 (c : Nat) {α β γ : Type} (R : Rp α) (R2 : Rp γ) (Pre : α → γ → Prop) (S : Rp β) (P : α → γ → β → Prop) : Sp := fun vs H Q _ => ∃ F a N v u x z, vs = [.ref a, v, u] ∧ Ex F H ∧ F a = none ∧ Src H a (N + c) ∧ R F v x ∧ R2 F u z ∧ Pre x z ∧
  ∀ w y F' H', Gr (M1 a) F H F' H' → F' a = none → Src H' a N → P x z y → S F' w y → Q w H'
class SpLen (sp : Sp) (n : outParam Nat) : Prop where
  len : ∀ {vs H Q E}, sp vs H Q E → vs.length = n
section
variable {α β γ δ ε : Type} {R : Rp α} {S : Rp β} {T : Rp γ} {U : Rp δ} {W : Rp ε}
instance {p : α → Prop} {f : α → β} : SpLen (Sp1 R p S f) 1 := ⟨fun ⟨_, _, _, h, _⟩ => by rw [h]; rfl⟩
instance {p : α → β → Prop} {f : α → β → γ} : SpLen (Sp2 R S p T f) 2 := ⟨fun ⟨_, _, _, _, _, h, _⟩ => by rw [h]; rfl⟩
instance {p : α → β → γ → Prop} {f : α → β → γ → δ} : SpLen (Sp3 R S T p U f) 3 := ⟨fun ⟨_, _, _, _, _, _, _, h, _⟩ => by rw [h]; rfl⟩
instance {p : α → β → γ → δ → Prop} {f : α → β → γ → δ → ε} : SpLen (Sp4 R S T U p W f) 4 := ⟨fun ⟨_, _, _, _, _, _, _, _, _, h, _⟩ => by rw [h]; rfl⟩
instance {c : Nat} {P : β → Prop} : SpLen (SpS0 c S P) 1 := ⟨fun ⟨_, _, _, h, _⟩ => by rw [h]; rfl⟩
instance {c : Nat} {p : α → Prop} {P : α → β → Prop} : SpLen (SpS1 c R p S P) 2 := ⟨fun ⟨_, _, _, _, _, h, _⟩ => by rw [h]; rfl⟩
instance {c : Nat} {p : α → γ → Prop} {P : α → γ → β → Prop} : SpLen (SpS2 c R T p S P) 3 := ⟨fun ⟨_, _, _, _, _, _, _, h, _⟩ => by rw [h]; rfl⟩
instance {a b : Addr} : SpLen (SpDraw a b) 2 := ⟨fun ⟨_, _, _, _, _, h, _⟩ => by rw [h]; rfl⟩
instance {a b : Addr} : SpLen (SpElder a b) 2 := ⟨fun ⟨_, _, _, _, _, _, _, _, h, _⟩ => by rw [h]; rfl⟩
instance {a b : Addr} : SpLen (SpPlace a b) 1 := ⟨fun ⟨_, _, _, _, _, _, _, h, _⟩ => by rw [h]; rfl⟩
instance {a b : Addr} : SpLen (SpUsed a b) 1 := ⟨fun ⟨_, _, _, _, _, _, _, h, _⟩ => by rw [h]; rfl⟩
instance {C : Addr} : SpLen (SpTurns C) 3 := ⟨fun ⟨_, _, _, _, _, h, _⟩ => by rw [h]; rfl⟩
end
section
variable {K : PySem.W.Frag} {σ : St} {F H F' H' : Hp} {ta tb tc te tl : TE} {tt t u : TT} {α β γ δ ε : Type} {R : Rp α} {S : Rp β} {T : Rp γ} {x : α} {y : β} {z : γ} {xs : List α} {a : Addr} {c c1 c2 N : Nat} {P P1 : α → Prop} {P2 : β → Prop} {D : Ends} {ts tu : TS} {E : XK}
theorem EvS.mono {c' : Nat} {P' : α → Prop} (h : EvS a c R te σ F H P) (hp : ∀ x, P x → P' x) (hc : c ≤ c') : EvS a c' R te σ F H P' := fun F1 H1 N g fa s Q q =>
  h F1 H1 (N + (c' - c)) g fa (s.le (by omega)) Q fun v x F2 H2 g2 fa2 s2 p r => q v x F2 H2 g2 fa2 (s2.le (by omega)) (hp x p) r
theorem EvS.gr (h : EvS a c R te σ F H P) (g : Gr (M1 a) F H F' H') : EvS a c R te σ F' H' P := fun F1 H1 N g1 fa s Q q => h F1 H1 N (g.trans g1) fa s Q q
theorem Src.someO {H : Hp} (s : Src H a N) : ∃ o, H a = some o := by
  obtain ⟨n, c, k, h, _⟩ := s
  exact ⟨_, h⟩
theorem es_pure (h : ∀ F1 H1, Gr (M1 a) F H F1 H1 → F1 a = none → Ev R te σ F1 H1 x) : EvS a 0 R te σ F H (fun y => y = x) := fun F1 H1 N g fa s Q q =>
  h F1 H1 g fa F1 H1 (.refl g.fh) Q fun v F2 H2 g2 r => by
    obtain ⟨o, ho⟩ := s.someO
    exact q v x F2 H2 g2.up (g2.nn ho fa) (s.gr g2) rfl r
theorem ets_pure {b : Bool} (h : ∀ F1 H1, Gr (M1 a) F H F1 H1 → F1 a = none → EvT tt σ F1 H1 b) : EvTS a 0 tt σ F H (fun y => y = b) := fun F1 H1 N g fa s Q q =>
  h F1 H1 g fa F1 H1 (.refl g.fh) Q fun F2 H2 g2 => by
    obtain ⟨o, ho⟩ := s.someO
    exact q b F2 H2 g2.up (g2.nn ho fa) (s.gr g2) rfl
theorem es_var {i : Nat} {v : V} (h : σ[i]? = some (some v)) (r : R F v x) (m : Mn R := by infer_instance) : EvS a 0 R (tVar i) σ F H (fun y => y = x) := es_pure fun F1 H1 g _ => ev_var h (m.mono g.ff r)
theorem es_int {i : Int} : EvS a 0 rInt (tC (.int i)) σ F H (fun y => y = i) := es_pure fun _ _ _ _ => ev_int
theorem ev_lit {i : Int} {n : Nat} (h : i = (n : Int) := by rfl) : Ev rNat (tC (.int i)) σ F H n := by
  subst h
  exact ev_int
theorem es_lit {i : Int} {n : Nat} (h : i = (n : Int) := by rfl) : EvS a 0 rNat (tC (.int i)) σ F H (fun y => y = n) := es_pure fun _ _ _ _ => ev_lit h
theorem EvS.nat {P : Nat → Prop} (h : EvS a c rNat te σ F H P) : EvS a c rInt te σ F H (fun i => ∃ n : Nat, i = (n : Int) ∧ P n) := fun F1 H1 N g fa s Q q =>
  h F1 H1 N g fa s Q fun v x F2 H2 g2 fa2 s2 p r => q v (x : Int) F2 H2 g2 fa2 s2 ⟨x, rfl, p⟩ r
theorem EvS.toNat {P : Int → Prop} {P' : Nat → Prop} (h : EvS a c rInt te σ F H P) (hp : ∀ i, P i → ∃ n : Nat, i = (n : Int) ∧ P' n) : EvS a c rNat te σ F H P' := fun F1 H1 N g fa s Q q =>
  h F1 H1 N g fa s Q fun v x F2 H2 g2 fa2 s2 p r => by
    obtain ⟨n, rfl, p'⟩ := hp x p
    exact q v n F2 H2 g2 fa2 s2 p' r
/-- two parts, one behind the other -/
theorem es_two {r : R2} {P' : γ → Prop} (ha : EvS a c1 R ta σ F H P1) (hb : EvS a c2 S tb σ F H P2) (m : Mn R)
    (k : ∀ F3 H3 N v w x y (Q : VK), Ex F3 H3 → F3 a = none → Src H3 a N → P1 x → P2 y → R F3 v x → S F3 w y → (∀ u z F4 H4, Gr M0 F3 H3 F4 H4 → P' z → T F4 u z → Q u H4) → r v w H3 Q) : EvS a (c1 + c2) T (tOp r ta tb) σ F H P' := fun F1 H1 N g fa s Q q =>
  ha F1 H1 (N + c2) g fa (s.le (by omega)) _ fun v x F2 H2 g2 fa2 s2 p1 r1 => hb F2 H2 N (g.trans g2) fa2 s2 _ fun w y F3 H3 g3 fa3 s3 p2 r2 =>
    k F3 H3 N v w x y Q g3.fh fa3 s3 p1 p2 (m.mono g3.ff r1) r2 fun u z F4 H4 g4 p4 r4 => by
      obtain ⟨o, ho⟩ := s3.someO
      exact q u z F4 H4 ((g2.trans g3).trans g4.up) (g4.nn ho fa3) (s3.gr g4) p4 r4
theorem es_I0 {P1 P2 : Int → Prop} {g : Int → Int → V} {f : Int → Int → γ} (ha : EvS a c1 rInt ta σ F H P1) (hb : EvS a c2 rInt tb σ F H P2) (hz : ∀ F i j, T F (g i j) (f i j)) : EvS a (c1 + c2) T (tOp (rI0 g) ta tb) σ F H (fun z => ∃ i j, P1 i ∧ P2 j ∧ z = f i j) :=
  es_two ha hb inferInstance fun F3 H3 N v w i j Q e fa s p1 p2 r1 r2 q => ⟨i, j, r1, r2, q _ _ F3 H3 (.refl e) ⟨i, j, p1, p2, rfl⟩ (hz F3 i j)⟩
theorem es_I {P1 P2 : Int → Prop} {C : Int → Int → Prop} {g : Int → Int → V} {f : Int → Int → γ} (ha : EvS a c1 rInt ta σ F H P1) (hb : EvS a c2 rInt tb σ F H P2) (hc : ∀ i j, P1 i → P2 j → C i j) (hz : ∀ F i j, T F (g i j) (f i j)) : EvS a (c1 + c2) T (tOp (rI C g) ta tb) σ F H (fun z => ∃ i j, P1 i ∧ P2 j ∧ z = f i j) :=
  es_two ha hb inferInstance fun F3 H3 N v w i j Q e fa s p1 p2 r1 r2 q => ⟨i, j, r1, r2, hc i j p1 p2, q _ _ F3 H3 (.refl e) ⟨i, j, p1, p2, rfl⟩ (hz F3 i j)⟩
theorem es_add {P1 P2 : Int → Prop} (ha : EvS a c1 rInt ta σ F H P1) (hb : EvS a c2 rInt tb σ F H P2) : EvS a (c1 + c2) rInt (tOp (rI0 fun i j => .int (i + j)) ta tb) σ F H (fun z => ∃ i j, P1 i ∧ P2 j ∧ z = i + j) := es_I0 ha hb fun _ _ _ => rfl
theorem es_sub {P1 P2 : Int → Prop} (ha : EvS a c1 rInt ta σ F H P1) (hb : EvS a c2 rInt tb σ F H P2) : EvS a (c1 + c2) rInt (tOp (rI0 fun i j => .int (i - j)) ta tb) σ F H (fun z => ∃ i j, P1 i ∧ P2 j ∧ z = i - j) := es_I0 ha hb fun _ _ _ => rfl
theorem es_mul {P1 P2 : Int → Prop} (ha : EvS a c1 rInt ta σ F H P1) (hb : EvS a c2 rInt tb σ F H P2) (hc : ∀ i j, P1 i → P2 j → CMul i j) : EvS a (c1 + c2) rInt (tOp (rI CMul fun i j => .int (i * j)) ta tb) σ F H (fun z => ∃ i j, P1 i ∧ P2 j ∧ z = i * j) := es_I ha hb hc fun _ _ _ => rfl
theorem es_eqI {P1 P2 : Int → Prop} (ha : EvS a c1 rInt ta σ F H P1) (hb : EvS a c2 rInt tb σ F H P2) : EvS a (c1 + c2) rBl (tOp rEq ta tb) σ F H (fun z => ∃ i j, P1 i ∧ P2 j ∧ z = decide (i = j)) :=
  es_two ha hb inferInstance fun F3 H3 N v w i j Q e fa s p1 p2 r1 r2 q => by
    cases (show v = _ from r1)
    cases (show w = _ from r2)
    refine ⟨rfl, ?_⟩
    have e1 : decide (V.int i = V.int j) = decide (i = j) := by simp
    rw [e1]
    exact q _ _ F3 H3 (.refl e) ⟨i, j, p1, p2, rfl⟩ rfl
theorem es_gtI {P1 P2 : Int → Prop} (ha : EvS a c1 rInt ta σ F H P1) (hb : EvS a c2 rInt tb σ F H P2) : EvS a (c1 + c2) rBl (tOp (rI0 fun i j => .bl (decide (j < i))) ta tb) σ F H (fun z => ∃ i j, P1 i ∧ P2 j ∧ z = decide (j < i)) := es_I0 ha hb fun _ _ _ => rfl
/-- an item of a frozen list, at a drawn place -/
theorem es_ixL {P2 : Int → Prop} (ha : ∀ F1 H1, Gr (M1 a) F H F1 H1 → F1 a = none → Ev (rLst R) ta σ F1 H1 xs) (hb : EvS a c rInt tb σ F H P2) (h : ∀ i, P2 i → ∃ x, atI xs i = some x) (m : Mn R := by infer_instance) : EvS a c R (tOp (rIxL K) ta tb) σ F H (fun x => ∃ i, P2 i ∧ atI xs i = some x) :=
  (es_two (es_pure ha) hb inferInstance fun F3 H3 N v w ys i Q e fa s p1 p2 ⟨b, vs, eb, hl, p⟩ r2 q => by
    subst p1
    obtain ⟨x, hx⟩ := h i p2
    obtain ⟨y, hy, ry⟩ := atI_paired p hx
    exact ⟨b, vs, i, y, eb, r2, SqL.of (e _ _ hl), hy, q y x F3 H3 (.refl e) ⟨i, p2, hx⟩ ry⟩).mono (fun _ h => h) (by omega)
theorem es_pr {P1 : α → Prop} (ha : EvS a c1 R ta σ F H P1) (hb : EvS a c2 S tb σ F H P2) (m : Mn R := by infer_instance) (n : Mn S := by infer_instance) : EvS a (c1 + c2) (rPr R S) (tTup (tCons ta (tCons tb tNil))) σ F H (fun p => P1 p.1 ∧ P2 p.2) := fun F1 H1 N g fa s Q q =>
  ha F1 H1 (N + c2) g fa (s.le (by omega)) _ fun v x F2 H2 g2 fa2 s2 p1 r1 => hb F2 H2 N (g.trans g2) fa2 s2 _ fun w y F3 H3 g3 fa3 s3 p2 r2 => ⟨by show 2 ≤ sizeLine; decide, fun B hB => by
    have g4 : Gr M0 F3 H3 (upd F3 B (.tup [v, w])) (upd H3 B (.tup [v, w])) := .new g3.fh hB
    obtain ⟨o, ho⟩ := s3.someO
    exact q _ (x, y) _ _ ((g2.trans g3).trans g4.up) (g4.nn ho fa3) (s3.gr g4) ⟨p1, p2⟩ ⟨B, v, w, rfl, upd_same, m.mono (g3.ff.trans g4.ff) r1, n.mono g4.ff r2⟩⟩
theorem es_tupL {P : List α → Prop} (ha : EvS a c (rLst R) ta σ F H P) (m : Mn R := by infer_instance) : EvS a c (rTup R) (tCB (rTupS K) (tCons ta tNil)) σ F H P := fun F1 H1 N g fa s Q q =>
  ha F1 H1 N g fa s _ fun v x F2 H2 g2 fa2 s2 p ⟨b, vs, e, hl, pr⟩ => ⟨b, vs, by rw [e], .inl ⟨SqL.of (g2.fh _ _ hl), fun B hB => by
    have g4 : Gr M0 F2 H2 (upd F2 B (.tup vs)) (upd H2 B (.tup vs)) := .new g2.fh hB
    obtain ⟨o, ho⟩ := s2.someO
    exact q _ x _ _ (g2.trans g4.up) (g4.nn ho fa2) (s2.gr g4) p ⟨B, vs, rfl, upd_same, Paired.up g4.ff pr⟩⟩⟩
/-! calls -/
theorem es_call0 {i : Nat} (hv : σ[i]? = some (some (.ref a))) : EvS a c S (tCall (SpS0 c S P2) [] E (tCons (tVar i) tNil)) σ F H P2 := fun F1 H1 N g fa s Q q =>
  ⟨.ref a, hv, F1, a, N, rfl, g.fh, fa, s, fun w y F' H' g' fa' s' p r => q w y F' H' g' fa' s' p r⟩
theorem es_call1 {i : Nat} {Pre : α → Prop} {P' : α → β → Prop} (hv : σ[i]? = some (some (.ref a))) (hb : EvS a c2 R tb σ F H P1) (hp : ∀ x, P1 x → Pre x) : EvS a (c2 + c) S (tCall (SpS1 c R Pre S P') [] E (tCons (tVar i) (tCons tb tNil))) σ F H (fun y => ∃ x, P1 x ∧ P' x y) := fun F1 H1 N g fa s Q q =>
  ⟨.ref a, hv, hb F1 H1 (N + c) g fa (s.le (by omega)) _ fun v x F2 H2 g2 fa2 s2 p r => ⟨F2, a, N, v, x, rfl, g2.fh, fa2, s2, r, hp x p, fun w y F' H' g' fa' s' p' r' => q w y F' H' (g2.trans g') fa' s' ⟨x, p, p'⟩ r'⟩⟩
theorem es_call2 {i : Nat} {Pre : α → γ → Prop} {P' : α → γ → β → Prop} {P3 : γ → Prop} {c3 : Nat} (hv : σ[i]? = some (some (.ref a))) (hb : EvS a c2 R tb σ F H P1) (hc : EvS a c3 T tc σ F H P3) (hp : ∀ x z, P1 x → P3 z → Pre x z) (m : Mn R := by infer_instance) : EvS a (c2 + c3 + c) S (tCall (SpS2 c R T Pre S P') [] E (tCons (tVar i) (tCons tb (tCons tc tNil)))) σ F H (fun y => ∃ x z, P1 x ∧ P3 z ∧ P' x z y) := fun F1 H1 N g fa s Q q =>
  ⟨.ref a, hv, hb F1 H1 (N + c3 + c) g fa (s.le (by omega)) _ fun v x F2 H2 g2 fa2 s2 p r => hc F2 H2 (N + c) (g.trans g2) fa2 (s2.le (by omega)) _ fun u z F3 H3 g3 fa3 s3 p3 r3 => ⟨F3, a, N, v, u, x, z, rfl, g3.fh, fa3, s3, m.mono g3.ff r, r3, hp x z p p3, fun w y F' H' g' fa' s' p' r' => q w y F' H' ((g2.trans g3).trans g') fa' s' ⟨x, z, p, p3, p'⟩ r'⟩⟩
/-! [elt for k in range(n)] -/
theorem es_lcR {j B : Nat} {vs : List Nat} {P1 : Int → Prop} {P2 : Nat → β → Prop} (h : EvS a c1 rInt ta σ F H P1) (hn : ∀ n, P1 n → 0 ≤ n ∧ n ≤ (B : Int)) (hB : B ≤ 1000000) (hw : ∀ v, wipe ((wipe σ vs).set j (some v)) vs = wipe σ vs)
    (he : ∀ i : Nat, i < B → ∀ F1 H1, Gr (M1 a) F H F1 H1 → F1 a = none → EvS a c2 S te ((wipe σ vs).set j (some (.int (i : Int)))) F1 H1 (P2 i)) (m' : Mn S := by infer_instance) :
    EvS a (c1 + B * c2) (rLst S) (tLc (iRng1 (tCons ta tNil)) (gName j) tYes te vs) σ F H (fun l => ∃ n, P1 n ∧ (l.length : Int) = n ∧ ∀ (i : Nat) x, l[i]? = some x → P2 i x) := by
  intro F1 H1 N g1 fa s Q q
  refine h F1 H1 (N + B * c2) g1 fa (s.le (by omega)) _ fun v n F2 H2 g2 fa2 s2 p ea => ?_
  obtain ⟨n0, n1⟩ := hn n p
  refine ⟨n, by rw [show v = _ from ea], by omega, by omega, fun B' hD => ?_⟩
  obtain ⟨k, hk⟩ : ∃ k : Nat, n = (k : Int) := ⟨n.toNat, by omega⟩
  subst hk
  rw [Int.toNat_natCast]
  have hne : B' ≠ a := fun z => by
    subst z
    exact s2.hn hD
  refine lc_range (lo := 0) (n := k) (fun i H' => ∃ F' us l, Gr (M1 a) F2 H2 F' H' ∧ F' a = none ∧ Src H' a (N + (B - i) * c2) ∧ F' B' = none ∧ H' B' = some (.lst us) ∧ l.length = i ∧ Paired (S F') us l ∧ ∀ (t : Nat) x, l[t]? = some x → P2 t x)
    ⟨F2, [], [], .loc g2.fh hD, fa2, (by rw [Nat.sub_zero]; exact s2.ex (upd_ne hne.symm)), g2.fh.free hD, upd_same, rfl, .nil, fun t x hx => by simp at hx⟩ ?_ ?_
  · rintro i H' hi ⟨F', us, l, g, fa', s', fD, hD', hl, pu, hP⟩
    have e0 : (0 : Int) + (i : Int) = (i : Int) := Int.zero_add _
    rw [e0]
    refine ⟨hw _, ?_⟩
    have hb : (B - i) * c2 = (B - (i + 1)) * c2 + c2 := by
      rw [show B - i = (B - (i + 1)) + 1 by omega, Nat.succ_mul]
    refine he i (by omega) F' H' ((g1.trans g2).trans g) fa' F' H' (N + (B - (i + 1)) * c2) (.refl g.fh) fa' (s'.le (by omega)) _ fun u y F3 H3 g3 fa3 s3 py r3 => ?_
    have hD3 : H3 B' = some (.lst us) := g3.hh _ _ hne hD'
    have fD3 : F3 B' = none := g3.nw B' hne (by rw [hD']; exact fun z => nomatch z) fD
    refine ⟨us, hD3, ?_, F3, us ++ [u], l ++ [y], (g.trans g3).set' fD3 (.inl hD), fa3, s3.ex (upd_ne hne.symm), fD3, upd_same, by rw [List.length_append, hl]; rfl, (Paired.up g3.ff pu).snoc r3, ?_⟩
    · rw [pu.length, hl, sizeLine_eq]
      omega
    · intro t x hx
      by_cases ht : t < l.length
      · rw [List.getElem?_append_left ht] at hx
        exact hP t x hx
      · have ht2 : t < (l ++ [y]).length := (List.getElem?_eq_some_iff.mp hx).1
        rw [List.length_append] at ht2
        have e1 : t = l.length := by simp at ht2; omega
        subst e1
        rw [List.getElem?_append_right (Nat.le_refl _), Nat.sub_self] at hx
        cases hx
        rw [hl]
        exact py
  · rintro H' ⟨F', us, l, g, fa', s', fD, hD', hl, pu, hP⟩
    exact q _ l _ _ (g2.trans (g.frz hD' (g2.fh.free hD) (.inl hD))) (by rw [upd_ne hne.symm]; exact fa') (s'.le (Nat.le_add_right _ _)) ⟨(k : Int), p, by rw [hl], hP⟩ ⟨B', us, rfl, upd_same, Paired.up (g.fh.frz hD' fD) pu⟩
theorem es_callP {i : Nat} {Pre : α → Prop} {P' : α → β → Prop} (hv : σ[i]? = some (some (.ref a))) (hb : ∀ F1 H1, Gr (M1 a) F H F1 H1 → F1 a = none → Ev R tb σ F1 H1 x) (hp : Pre x) : EvS a c S (tCall (SpS1 c R Pre S P') [] E (tCons (tVar i) (tCons tb tNil))) σ F H (fun y => P' x y) :=
  (es_call1 hv (es_pure hb) (fun z e => by rw [e]; exact hp)).mono (fun y ⟨z, e, p⟩ => by rw [← e]; exact p) (by omega)
theorem es_callP2 {i : Nat} {Pre : α → γ → Prop} {P' : α → γ → β → Prop} (hv : σ[i]? = some (some (.ref a))) (hb : ∀ F1 H1, Gr (M1 a) F H F1 H1 → F1 a = none → Ev R tb σ F1 H1 x) (hc : ∀ F1 H1, Gr (M1 a) F H F1 H1 → F1 a = none → Ev T tc σ F1 H1 z) (hp : Pre x z) (m : Mn R := by infer_instance) : EvS a c S (tCall (SpS2 c R T Pre S P') [] E (tCons (tVar i) (tCons tb (tCons tc tNil)))) σ F H (fun y => P' x z y) :=
  (es_call2 hv (es_pure hb) (es_pure hc) (fun u w e e2 => by rw [e, e2]; exact hp) m).mono (fun y ⟨u, w, e, e2, p⟩ => by rw [← e, ← e2]; exact p) (by omega)
theorem es_lcRP {j n B : Nat} {vs : List Nat} {P2 : Nat → β → Prop} (h : ∀ F1 H1, Gr (M1 a) F H F1 H1 → F1 a = none → Ev rInt ta σ F1 H1 (n : Int)) (hn : n ≤ B) (hB : B ≤ 1000000) (hw : ∀ v, wipe ((wipe σ vs).set j (some v)) vs = wipe σ vs)
    (he : ∀ i : Nat, i < n → ∀ F1 H1, Gr (M1 a) F H F1 H1 → F1 a = none → EvS a c2 S te ((wipe σ vs).set j (some (.int (i : Int)))) F1 H1 (P2 i)) (m' : Mn S := by infer_instance) :
    EvS a (B * c2) (rLst S) (tLc (iRng1 (tCons ta tNil)) (gName j) tYes te vs) σ F H (fun l => l.length = n ∧ ∀ (i : Nat) x, l[i]? = some x → P2 i x) :=
  (es_lcR (B := n) (es_pure h) (fun k e => by rw [e]; omega) (by omega) hw he m').mono (fun l ⟨k, e, hl, p⟩ => ⟨by omega, p⟩) (by rw [Nat.zero_add]; exact Nat.mul_le_mul_right _ hn)
/-! tests -/
theorem ets_test {P : Bool → Prop} (h : EvS a c rBl te σ F H P) : EvTS a c (tTest te) σ F H P := fun F1 H1 N g fa s Q q => h F1 H1 N g fa s _ fun v b F2 H2 g2 fa2 s2 p r => ⟨b, r, q b F2 H2 g2 fa2 s2 p⟩
theorem ets_B {P : Bool → Prop} (h : EvS a c rBl te σ F H P) : EvTS a c (tB te) σ F H P := fun F1 H1 N g fa s Q q => h F1 H1 N g fa s _ fun v b F2 H2 g2 fa2 s2 p r => ⟨b, r, q b F2 H2 g2 fa2 s2 p⟩
theorem ets_and {P1 P2 : Bool → Prop} (h1 : EvTS a c1 t σ F H P1) (h2 : EvTS a c2 u σ F H P2) : EvTS a (c1 + c2) (tAnd t u) σ F H (fun b => b = true → P1 true ∧ P2 true) := fun F1 H1 N g fa s Q q =>
  h1 F1 H1 (N + c2) g fa (s.le (by omega)) _ fun b F2 H2 g2 fa2 s2 p => by
    cases b with
    | true => exact h2 F2 H2 N (g.trans g2) fa2 s2 _ fun b F3 H3 g3 fa3 s3 p3 => q b F3 H3 (g2.trans g3) fa3 s3 fun e => ⟨p, e ▸ p3⟩
    | false => exact q false F2 H2 g2 fa2 (s2.le (by omega)) fun e => nomatch e
/-! statements -/
theorem x_setS {i : Nat} (h : EvS a c R te σ F H P) (e : Ex F H) (fa : F a = none) (s : Src H a N) (hc : c ≤ N) (k : ∀ v x F' H', Gr (M1 a) F H F' H' → F' a = none → Src H' a (N - c) → P x → R F' v x → D.nx (σ.set i (some v)) H') : tAsg te (gName i) D σ H :=
  h F H (N - c) (.refl e) fa (s.le (by omega)) _ fun v x F' H' g fa' s' p r => k v x F' H' g fa' s' p r
theorem x_retS (h : EvS a c R te σ F H P) (e : Ex F H) (fa : F a = none) (s : Src H a N) (hc : c ≤ N) (k : ∀ v x F' H', Gr (M1 a) F H F' H' → F' a = none → Src H' a (N - c) → P x → R F' v x → D.rt v H') : tRet te D σ H :=
  h F H (N - c) (.refl e) fa (s.le (by omega)) _ fun v x F' H' g fa' s' p r => k v x F' H' g fa' s' p r
theorem x_ifS {P : Bool → Prop} (h : EvTS a c t σ F H P) (e : Ex F H) (fa : F a = none) (s : Src H a N) (hc : c ≤ N) (k1 : P true → ∀ F' H', Gr (M1 a) F H F' H' → F' a = none → Src H' a (N - c) → ts D σ H') (k2 : P false → ∀ F' H', Gr (M1 a) F H F' H' → F' a = none → Src H' a (N - c) → tu D σ H') : tIfS t ts tu D σ H :=
  h F H (N - c) (.refl e) fa (s.le (by omega)) _ fun b F' H' g fa' s' p => by
    cases b with
    | true => exact k1 p F' H' g fa' s'
    | false => exact k2 p F' H' g fa' s'
/-- x, y = e, e a pair -/
theorem x_pairS {i j : Nat} {P : α × β → Prop} (h : EvS a c (rPr R S) te σ F H P) (e : Ex F H) (fa : F a = none) (s : Src H a N) (hc : c ≤ N)
    (k : ∀ v w x F' H', Gr (M1 a) F H F' H' → F' a = none → Src H' a (N - c) → P x → R F' v x.1 → S F' w x.2 → D.nx ((σ.set i (some v)).set j (some w)) H') : tAsg te (gTup K 2 (gCons (gName i) (gCons (gName j) gNil))) D σ H :=
  h F H (N - c) (.refl e) fa (s.le (by omega)) _ fun v x F' H' g fa' s' p ⟨b, u, w, eb, hb, r1, r2⟩ => by
    subst eb
    refine ⟨b, [u, w], rfl, SqT.of (g.fh _ _ hb), rfl, u, [w], rfl, w, [], rfl, rfl, ?_⟩
    exact k u w x F' H' g fa' s' p r1 r2
end
end El

set_option Elab.async false
set_option linter.all false
set_option maxRecDepth 100000
set_option maxHeartbeats 2000000
namespace El
open PySem PySem.Spec L2
/-! ### == of data -/
class Dt {α : Type} (R : Rp α) where
  data : α → PyData
  rep : ∀ {K : PySem.W.Frag} {F H : Hp} {v : V} {x : α}, Ex F H → R F v x → Dp K H v (data x)
  lay : ∀ x, (data x).canLay0 = true
  dep : Nat
  depth : ∀ x, (data x).depth ≤ dep
  eqv : ∀ x y, PyData.eqv (data x) (data y) = true ↔ x = y
instance : Dt rInt where
  data := .int
  rep := fun e r => by cases (show _ = _ from r); exact .int _
  lay := fun _ => rfl
  dep := 0
  depth := fun _ => Nat.le_refl _
  eqv := fun x y => by show (x == y) = true ↔ x = y; exact beq_iff_eq
instance : Dt rNat where
  data := fun n => .int (n : Int)
  rep := fun e r => by cases (show _ = _ from r); exact .int _
  lay := fun _ => rfl
  dep := 0
  depth := fun _ => Nat.le_refl _
  eqv := fun x y => by show ((x : Int) == (y : Int)) = true ↔ x = y; rw [beq_iff_eq]; omega
instance : Dt rBl where
  data := .bool
  rep := fun e r => by cases (show _ = _ from r); exact .bl _
  lay := fun _ => rfl
  dep := 0
  depth := fun _ => Nat.le_refl _
  eqv := fun x y => by show (x == y) = true ↔ x = y; exact beq_iff_eq
theorem dpAll {α : Type} {R : Rp α} [d : Dt R] {K : PySem.W.Frag} {F H : Hp} (e : Ex F H) : ∀ {vs : List V} {xs : List α}, Paired (R F) vs xs → DpAll K H vs (xs.map d.data)
  | _, _, .nil => .nil
  | _, _, .cons r t => .cons (d.rep e r) (dpAll e t)
theorem layAll {α : Type} {R : Rp α} [d : Dt R] : ∀ xs : List α, PyData.canLayAll0 (xs.map d.data) = true
  | [] => rfl
  | x :: xs => by
    show (PyData.canLay0 (d.data x) && PyData.canLayAll0 (xs.map d.data)) = true
    rw [d.lay x, layAll xs]
    rfl
theorem depAll {α : Type} {R : Rp α} [d : Dt R] : ∀ xs : List α, PyData.depthAll (xs.map d.data) ≤ d.dep
  | [] => Nat.zero_le _
  | x :: xs => by
    show max (PyData.depth (d.data x)) (PyData.depthAll (xs.map d.data)) ≤ _
    exact Nat.max_le.mpr ⟨d.depth x, depAll xs⟩
theorem eqvAllD {α : Type} {R : Rp α} [d : Dt R] : ∀ xs ys : List α, PyData.eqvAll (xs.map d.data) (ys.map d.data) = true ↔ xs = ys
  | [], [] => by simp [PyData.eqvAll]
  | x :: xs, [] => by simp [PyData.eqvAll]
  | [], y :: ys => by simp [PyData.eqvAll]
  | x :: xs, y :: ys => by
    show (PyData.eqv (d.data x) (d.data y) && PyData.eqvAll (xs.map d.data) (ys.map d.data)) = true ↔ _
    rw [Bool.and_eq_true, d.eqv, eqvAllD xs ys, List.cons.injEq]
instance {α : Type} {R : Rp α} [d : Dt R] : Dt (rLst R) where
  data := fun xs => .list (xs.map d.data)
  rep := fun e ⟨a, vs, h1, h2, h3⟩ => by subst h1; exact .lst (SqL.of (e _ _ h2)) (dpAll e h3)
  lay := fun xs => by show PyData.canLayAll0 _ = true; exact layAll xs
  dep := d.dep + 1
  depth := fun xs => by show PyData.depthAll _ + 1 ≤ _; exact Nat.succ_le_succ (depAll xs)
  eqv := fun xs ys => by show PyData.eqvAll _ _ = true ↔ _; exact eqvAllD xs ys
instance {α : Type} {R : Rp α} [d : Dt R] : Dt (rTup R) where
  data := fun xs => .tuple (xs.map d.data)
  rep := fun e ⟨a, vs, h1, h2, h3⟩ => by subst h1; exact .tup (SqT.of (e _ _ h2)) (dpAll e h3)
  lay := fun xs => by show PyData.canLayAll0 _ = true; exact layAll xs
  dep := d.dep + 1
  depth := fun xs => by show PyData.depthAll _ + 1 ≤ _; exact Nat.succ_le_succ (depAll xs)
  eqv := fun xs ys => by show PyData.eqvAll _ _ = true ↔ _; exact eqvAllD xs ys
instance {α β : Type} {R : Rp α} {S : Rp β} [d : Dt R] [f : Dt S] : Dt (rPr R S) where
  data := fun p => .tuple [d.data p.1, f.data p.2]
  rep := fun e ⟨a, x, y, h1, h2, h3, h4⟩ => by subst h1; exact .tup (SqT.of (e _ _ h2)) (.cons (d.rep e h3) (.cons (f.rep e h4) .nil))
  lay := fun p => by
    show (PyData.canLay0 _ && (PyData.canLay0 _ && true)) = true
    rw [d.lay, f.lay]
    rfl
  dep := max d.dep f.dep + 1
  depth := fun p => by
    show max (PyData.depth (d.data p.1)) (max (PyData.depth (f.data p.2)) 0) + 1 ≤ _
    have := d.depth p.1
    have := f.depth p.2
    omega
  eqv := fun p q => by
    show (PyData.eqv _ _ && (PyData.eqv _ _ && true)) = true ↔ _
    rw [Bool.and_true, Bool.and_eq_true, d.eqv, f.eqv, Prod.ext_iff]
class NotNoneD {α : Type} (R : Rp α) [d : Dt R] : Prop where
  nn : ∀ x, d.data x ≠ .none
instance : NotNoneD rInt := ⟨fun _ => fun z => nomatch z⟩
instance : NotNoneD rNat := ⟨fun _ => fun z => nomatch z⟩
instance : NotNoneD rBl := ⟨fun _ => fun z => nomatch z⟩
instance {α : Type} {R : Rp α} [d : Dt R] : NotNoneD (rLst R) := ⟨fun _ => fun z => nomatch z⟩
instance {α : Type} {R : Rp α} [d : Dt R] : NotNoneD (rTup R) := ⟨fun _ => fun z => nomatch z⟩
instance {α β : Type} {R : Rp α} {S : Rp β} [d : Dt R] [f : Dt S] : NotNoneD (rPr R S) := ⟨fun _ => fun z => nomatch z⟩
theorem eqv_none {d : PyData} (h : d ≠ .none) : PyData.eqv .none d = false ∧ PyData.eqv d .none = false := by
  cases d with
  | none => exact absurd rfl h
  | bool _ => exact ⟨rfl, rfl⟩
  | int _ => exact ⟨rfl, rfl⟩
  | str _ => exact ⟨rfl, rfl⟩
  | list _ => exact ⟨rfl, rfl⟩
  | tuple _ => exact ⟨rfl, rfl⟩
  | dict _ => exact ⟨rfl, rfl⟩
instance {α : Type} {R : Rp α} [d : Dt R] [n : NotNoneD R] : Dt (rOpt R) where
  data := fun x => match x with
    | none => .none
    | some y => d.data y
  rep := fun {K F H v x} e r => by
    cases x with
    | none => cases (show _ = _ from r); exact .non
    | some y => exact d.rep e r
  lay := fun x => by
    cases x with
    | none => rfl
    | some y => exact d.lay y
  dep := d.dep
  depth := fun x => by
    cases x with
    | none => exact Nat.zero_le _
    | some y => exact d.depth y
  eqv := fun x y => by
    cases x with
    | none =>
      cases y with
      | none => exact ⟨fun _ => rfl, fun _ => rfl⟩
      | some y => exact ⟨(fun h => by rw [(eqv_none (n.nn y)).1] at h; exact Bool.noConfusion h), (fun h => nomatch h)⟩
    | some x =>
      cases y with
      | none => exact ⟨(fun h => by rw [(eqv_none (n.nn x)).2] at h; exact Bool.noConfusion h), (fun h => nomatch h)⟩
      | some y => exact (d.eqv x y).trans ⟨fun h => by rw [h], fun h => Option.some.inj h⟩
section
variable {K : PySem.W.Frag} {σ : St} {F H F' H' : Hp} {ta tb tc te tl : TE} {α β : Type} {R : Rp α} {S : Rp β} {x y : α} {xs : List α}
theorem shapedD (d : Dt R) (h : d.dep ≤ 64) (x : α) : SeqAt.shaped (d.data x) = true := by
  show (PyData.canLay0 _ && decide _) = true
  rw [d.lay, decide_eq_true (Nat.le_trans (d.depth x) h)]
  rfl
theorem ev_eqD [DecidableEq α] (ha : Ev R ta σ F H x) (hb : Ev R tb σ F H y) (d : Dt R := by infer_instance) (m : Mn R := by infer_instance) (h : d.dep ≤ 64 := by decide) : Ev rBl (tOp (rEqD K) ta tb) σ F H (decide (x = y)) := fun F1 H1 g1 Q q =>
  ha F1 H1 g1 _ fun v F2 H2 g2 r => hb F2 H2 (g1.trans g2) _ fun w F3 H3 g3 r3 => ⟨d.data x, d.data y, d.rep g3.fh (m.mono g3.ff r), d.rep g3.fh r3, shapedD d h x, shapedD d h y, by
    have e : PyData.eqv (d.data x) (d.data y) = decide (x = y) := by
      by_cases z : x = y
      · rw [decide_eq_true z]; exact (d.eqv x y).mpr z
      · rw [decide_eq_false z]
        cases q : PyData.eqv (d.data x) (d.data y) with
        | false => rfl
        | true => exact absurd ((d.eqv x y).mp q) z
    rw [e]
    exact q _ F3 H3 (g2.trans g3) rfl⟩
theorem ev_neD [DecidableEq α] (ha : Ev R ta σ F H x) (hb : Ev R tb σ F H y) (d : Dt R := by infer_instance) (m : Mn R := by infer_instance) (h : d.dep ≤ 64 := by decide) : Ev rBl (tOp (rNeD K) ta tb) σ F H (!decide (x = y)) := fun F1 H1 g1 Q q =>
  ha F1 H1 g1 _ fun v F2 H2 g2 r => hb F2 H2 (g1.trans g2) _ fun w F3 H3 g3 r3 => ⟨d.data x, d.data y, d.rep g3.fh (m.mono g3.ff r), d.rep g3.fh r3, shapedD d h x, shapedD d h y, by
    have e : PyData.eqv (d.data x) (d.data y) = decide (x = y) := by
      by_cases z : x = y
      · rw [decide_eq_true z]; exact (d.eqv x y).mpr z
      · rw [decide_eq_false z]
        cases q : PyData.eqv (d.data x) (d.data y) with
        | false => rfl
        | true => exact absurd ((d.eqv x y).mp q) z
    rw [e]
    exact q _ F3 H3 (g2.trans g3) rfl⟩
theorem ev_neB {a b : Bool} (ha : Ev rBl ta σ F H a) (hb : Ev rBl tb σ F H b) : Ev rBl (tOp rNe ta tb) σ F H (!decide (a = b)) := fun F1 H1 g1 Q q =>
  ha F1 H1 g1 _ fun v F2 H2 g2 r => hb F2 H2 (g1.trans g2) _ fun w F3 H3 g3 r2 => by
    cases (show v = V.bl a from r)
    cases (show w = V.bl b from r2)
    refine ⟨rfl, ?_⟩
    have e : decide (V.bl a = V.bl b) = decide (a = b) := by simp
    rw [e]
    exact q _ F3 H3 (g2.trans g3) rfl
theorem ev_eqB {a b : Bool} (ha : Ev rBl ta σ F H a) (hb : Ev rBl tb σ F H b) : Ev rBl (tOp rEq ta tb) σ F H (decide (a = b)) := fun F1 H1 g1 Q q =>
  ha F1 H1 g1 _ fun v F2 H2 g2 r => hb F2 H2 (g1.trans g2) _ fun w F3 H3 g3 r2 => by
    cases (show v = V.bl a from r)
    cases (show w = V.bl b from r2)
    refine ⟨rfl, ?_⟩
    have e : decide (V.bl a = V.bl b) = decide (a = b) := by simp
    rw [e]
    exact q _ F3 H3 (g2.trans g3) rfl
/-- x == y of options of ints -/
theorem krev {X : Cx} (K : PySem.W.Frag) {e : Expr} {te : TE} {k : Nat} {p1 p2 p3 pos : Pos} (he : PE X e te) (hK : X.K = K := by rfl) : PE X (.Subscript e (.Slice none none (some (.UnaryOp .USub (.Constant (.int 1) k p1) p2)) p3) pos) (tRevL K te) := by
  subst hK
  exact pe_revL he
theorem ev_rev (ha : Ev (rLst R) ta σ F H xs) (m : Mn R := by infer_instance) : Ev (rLst R) (tRevL K ta) σ F H xs.reverse := fun F1 H1 g1 Q q =>
  ha F1 H1 g1 _ fun v F2 H2 g2 ⟨a, vs, e, hl, p⟩ => ⟨a, vs, e, SqL.of (g2.fh _ _ hl), fun D hD => q _ _ _ (g2.trans (.new g2.fh hD)) ⟨D, _, rfl, upd_same, Paired.rev (Paired.up (Gr.new (M := M0) g2.fh hD).ff p)⟩⟩
/-- the script's items -/
theorem Ex.seq {K : PySem.W.Frag} {H H' : Hp} {a : Addr} {xs : List V} (e : Ex H H') (h : SqL K H a xs) : SqL K H' a xs := by
  rcases h with (h | ⟨o, h⟩) | h
  · exact .inl (.inl (e _ _ h))
  · exact .inl (.inr ⟨o, e _ _ h⟩)
  · exact .inr h
theorem ev_script {a : Addr} {ns : List Int} {n : Nat} (ha : Ev rRef te σ F H a) (h : SqL K H a (ns.map V.int)) : Ev (rLst rInt) (tSl (rSlL K) te tNoPart (tPart (tC (.int (n : Int))))) σ F H (ns.take n) := fun F1 H1 g1 Q q =>
  ha F1 H1 g1 _ fun v F2 H2 g2 e => ⟨(n : Int), rfl, a, ns.map V.int, e, (g1.hx.trans g2.hx).seq h, fun D hD => q _ _ _ (g2.trans (.new g2.fh hD)) ⟨D, _, rfl, upd_same, by
    rw [← cut_to]
    exact cut_paired (paired_ints ns)⟩⟩
end
theorem gsx {M : Addr → Prop} {F0 H0 F H F' H' : Hp} (g : Gr M0 F0 H0 F H) (g2 : Gr M F H F' H') (n : ∀ b, M b → H0 b = none) : Gr M0 F0 H0 F' H' := g.seq0 g2 n
end El

set_option Elab.async false
set_option linter.all false
set_option maxHeartbeats 2000000
namespace El
/-! ### plain facts of maps and words -/
theorem uniq_const {c : Nat} : ∀ {l : List Nat}, (∀ x ∈ l, x = c) → l ≠ [] → uniq l = [c]
  | [], _, h => absurd rfl h
  | x :: l, h, _ => by
    have hx : x = c := h x List.mem_cons_self
    have hl : ∀ y ∈ l, y = c := fun y hy => h y (List.mem_cons_of_mem _ hy)
    show (if x ∈ uniq l then uniq l else x :: uniq l) = [c]
    by_cases hn : l = []
    · subst hn
      subst hx
      rfl
    · rw [uniq_const hl hn, if_pos (by rw [hx]; exact List.mem_singleton.mpr rfl)]
theorem metB_iff {l : List Nat} : metB l = true ↔ l ≠ [] ∧ ∃ c, ∀ x ∈ l, x = c := by
  constructor
  · intro h
    have h1 : (uniq l).length = 1 := of_decide_eq_true h
    obtain ⟨c, hc⟩ := List.length_eq_one_iff.mp h1
    refine ⟨fun e => ?_, c, fun x hx => ?_⟩
    · subst e; cases hc
    · have := mem_uniq.mpr hx
      rw [hc] at this
      exact List.mem_singleton.mp this
  · rintro ⟨h1, c, h2⟩
    unfold metB
    rw [uniq_const h2 h1]
    rfl
theorem metB_eq {l : List Nat} {x y : Nat} (h : metB l = true) (hx : x ∈ l) (hy : y ∈ l) : x = y := by
  obtain ⟨_, c, hc⟩ := metB_iff.mp h
  rw [hc x hx, hc y hy]
theorem metB_repl {n c : Nat} (h : 1 ≤ n) : metB (List.replicate n c) = true := metB_iff.mpr ⟨fun e => by have := congrArg List.length e; simp at this; omega, c, fun x hx => (List.mem_replicate.mp hx).2⟩
theorem isMap_repl {n c : Nat} {m : List Nat} (hm : IsMap n m) (h : ∀ x ∈ m, x = c) : m = List.replicate n c := by
  rw [List.eq_replicate_iff]
  exact ⟨hm.1, h⟩
theorem metB_const {n : Nat} {m : List Nat} (hm : IsMap n m) (h0 : 1 ≤ n) (h : metB m = true) : m = List.replicate n (m.headD 0) := by
  refine isMap_repl hm fun x hx => metB_eq h hx ?_
  cases m with
  | nil => have := hm.1; simp at this; omega
  | cons a m => exact List.mem_cons_self
theorem then_id {n : Nat} {m : List Nat} (h : IsMap n m) : thenM m (idMap n) = m := by
  unfold thenM idMap
  apply List.ext_getElem
  · rw [List.length_map]
  · intro i h1 h2
    rw [List.getElem_map, List.getD_eq_getElem?_getD, List.getElem?_range (h.2 _ (List.getElem_mem h2))]
    rfl
theorem id_then {n : Nat} {m : List Nat} (h : IsMap n m) : thenM (idMap n) m = m := by
  unfold thenM idMap
  apply List.ext_getElem
  · rw [List.length_map, List.length_range, h.1]
  · intro i h1 h2
    rw [List.getElem_map, List.getElem_range, List.getD_eq_getElem?_getD, List.getElem?_eq_getElem h2]
    rfl
theorem then_get {a b : List Nat} {x : Nat} (h : x < a.length) : (thenM a b).getD x 0 = b.getD (a.getD x 0) 0 := by
  unfold thenM
  rw [List.getD_eq_getElem?_getD, List.getElem?_map, List.getElem?_eq_getElem h, List.getD_eq_getElem?_getD (l := a), List.getElem?_eq_getElem h]
  rfl
theorem map_getD {b : List Nat} {f : Nat → Nat} {x : Nat} (h : x < b.length) : (b.map f).getD x 0 = f (b.getD x 0) := by
  rw [List.getD_eq_getElem?_getD, List.getElem?_map, List.getElem?_eq_getElem h, List.getD_eq_getElem?_getD, List.getElem?_eq_getElem h]
  rfl
theorem then_assoc {n : Nat} {a b c : List Nat} (ha : IsMap n a) (hb : IsMap n b) : thenM (thenM a b) c = thenM a (thenM b c) := by
  unfold thenM
  rw [List.map_map]
  refine List.map_congr_left fun x hx => ?_
  show c.getD (b.getD x 0) 0 = _
  rw [map_getD (by rw [hb.1]; exact ha.2 x hx)]
theorem then_const {n c : Nat} {a : List Nat} (ha : IsMap n a) : thenM a (List.replicate n c) = List.replicate n c := by
  rw [List.eq_replicate_iff]
  refine ⟨by unfold thenM; rw [List.length_map, ha.1], fun x hx => ?_⟩
  obtain ⟨y, hy, rfl⟩ := List.mem_map.mp hx
  rw [List.getD_eq_getElem?_getD, List.getElem?_replicate, if_pos (ha.2 y hy)]
  rfl
/-- a constant map, then another one -/
theorem const_then {n c : Nat} {b : List Nat} : thenM (List.replicate n c) b = List.replicate n (b.getD c 0) := by
  unfold thenM
  rw [List.map_replicate]
/-! words -/
theorem from_then {t : Tn} : ∀ {w : List Nat} {m : List Nat}, IsMap t.many m → (∀ s ∈ w, s < t.maps.length) → mapFrom t m w = thenM m (mapW t w)
  | [], m, hm, _ => (then_id hm).symm
  | s :: w, m, hm, hs => by
    have h1 := hs s List.mem_cons_self
    have h2 : ∀ s' ∈ w, s' < t.maps.length := fun s' h' => hs s' (List.mem_cons_of_mem _ h')
    show mapFrom t (thenM m (t.maps.getD s [])) w = thenM m (mapFrom t (thenM (idMap t.many) (t.maps.getD s [])) w)
    rw [id_then (t.isMap h1), from_then (isMap_then hm (t.isMap h1)) h2, from_then (t.isMap h1) h2, then_assoc hm (t.isMap h1)]
theorem mapW_app {t : Tn} {u v : List Nat} (hu : ∀ s ∈ u, s < t.maps.length) (hv : ∀ s ∈ v, s < t.maps.length) : mapW t (u ++ v) = thenM (mapW t u) (mapW t v) := by
  unfold mapW mapFrom
  rw [List.foldl_append]
  exact from_then (isMap_mapW hu) hv
theorem mapW_cons {t : Tn} {s : Nat} {v : List Nat} (h1 : s < t.maps.length) (hv : ∀ s ∈ v, s < t.maps.length) : mapW t (s :: v) = thenM (t.maps.getD s []) (mapW t v) := by
  show mapFrom t (thenM (idMap t.many) (t.maps.getD s [])) v = _
  rw [id_then (t.isMap h1), from_then (t.isMap h1) hv]
theorem mapW_one {t : Tn} {s : Nat} (h1 : s < t.maps.length) : mapW t [s] = t.maps.getD s [] := id_then (t.isMap h1)
/-! what is drawn: the first signs (the newest on) that meet -/
theorem drRun_snoc {t : Tn} {w : List Nat} {s : Nat} : drRun t (w ++ [s]) = drStep t (drRun t w) s := by
  unfold drRun
  rw [List.foldl_append]
  rfl
/-- the run: its map is that of its first signs, turned about; and it met no earlier -/
theorem drRun_spec {t : Tn} : ∀ (n : Nat) (w : List Nat), w.length = n → (∀ s ∈ w, s < t.maps.length) →
    (drRun t w).1 = mapW t (w.take (drRun t w).2).reverse ∧ (drRun t w).2 ≤ w.length ∧ (∀ j, j < (drRun t w).2 → metB (mapW t (w.take j).reverse) = false) ∧ ((drRun t w).2 = w.length ∨ metB (drRun t w).1 = true)
  | 0, w, hl, _ => by
    cases w with
    | nil => exact ⟨rfl, Nat.le_refl _, fun j hj => absurd hj (Nat.not_lt_zero _), .inl rfl⟩
    | cons a w => cases hl
  | n + 1, w, hl, hs => by
    obtain ⟨w', s, rfl⟩ : ∃ w' s, w = w' ++ [s] := ⟨w.dropLast, w.getLast (by intro e; subst e; cases hl), (List.dropLast_concat_getLast _).symm⟩
    have hl' : w'.length = n := by simpa using hl
    have h1 : ∀ s ∈ w', s < t.maps.length := fun s h => hs s (List.mem_append_left _ h)
    have h2 : s < t.maps.length := hs s (List.mem_append_right _ List.mem_cons_self)
    obtain ⟨i1, i2, i3, i4⟩ := drRun_spec n w' hl' h1
    rw [drRun_snoc]
    unfold drStep
    by_cases hm : metB (drRun t w').1 = true
    · rw [if_pos hm]
      refine ⟨?_, by rw [List.length_append]; omega, fun j hj => ?_, .inr hm⟩
      · rw [List.take_append_of_le_length i2]
        exact i1
      · rw [List.take_append_of_le_length (by omega)]
        exact i3 j hj
    · rw [if_neg hm]
      have e : (drRun t w').2 = w'.length := i4.resolve_right hm
      refine ⟨?_, by rw [List.length_append, e]; exact Nat.le_refl _, fun j hj => ?_, .inl (by rw [List.length_append, e]; rfl)⟩
      · rw [List.take_of_length_le (by rw [List.length_append, e]; exact Nat.le_refl _), List.reverse_append]
        show thenM (t.maps.getD s []) (drRun t w').1 = mapW t (s :: w'.reverse)
        rw [mapW_cons h2 (fun x hx => h1 x (List.mem_reverse.mp hx)), i1, e, List.take_length]
      · have hj' : j ≤ w'.length := by have : j < (drRun t w').2 + 1 := hj; omega
        rw [List.take_append_of_le_length hj']
        by_cases hj2 : j < w'.length
        · exact i3 j (by omega)
        · have : j = w'.length := by omega
          rw [this, List.take_length]
          have e2 := i1
          rw [e, List.take_length] at e2
          rw [← e2]
          simpa using hm
/-- the elder signs that are read behind the first that meet change nothing -/
theorem drawn_of_met {t : Tn} {w : List Nat} (hs : ∀ s ∈ w, s < t.maps.length) {j : Nat} (hj : j ≤ w.length) (hm : metB (mapW t (w.take j).reverse) = true) : ∃ u, u ≤ j ∧ drawnM t w = some ((mapW t w.reverse).headD 0, u) := by
  obtain ⟨h1, h2, h3, h4⟩ := drRun_spec w.length w rfl hs
  have hu : (drRun t w).2 ≤ j := by
    rcases Nat.lt_or_ge j (drRun t w).2 with h | h
    · rw [h3 j h] at hm; cases hm
    · exact h
  have t0 := t.h0
  have hm2 : metB (drRun t w).1 = true := by
    rcases h4 with h4 | h4
    · have : j = (drRun t w).2 := by omega
      rw [h1, ← this]; exact hm
    · exact h4
  have him : IsMap t.many (drRun t w).1 := isMap_run hs
  refine ⟨(drRun t w).2, hu, ?_⟩
  have ew : (mapW t w.reverse) = List.replicate t.many ((drRun t w).1.headD 0) := by
    have e : w.reverse = (w.drop (drRun t w).2).reverse ++ (w.take (drRun t w).2).reverse := by rw [← List.reverse_append, List.take_append_drop]
    have a1 : ∀ s ∈ (w.drop (drRun t w).2).reverse, s < t.maps.length := fun s h => hs s (List.mem_of_mem_drop (List.mem_reverse.mp h))
    have a2 : ∀ s ∈ (w.take (drRun t w).2).reverse, s < t.maps.length := fun s h => hs s (List.mem_of_mem_take (List.mem_reverse.mp h))
    rw [e, mapW_app a1 a2, ← h1, metB_const him t0 hm2, then_const (isMap_mapW a1)]
    cases hq : t.many with
    | zero => omega
    | succ k => rfl
  unfold drawnM plc
  rw [if_pos hm2]
  show some ((drRun t w).1.headD 0, _) = some ((mapW t w.reverse).headD 0, _)
  rw [ew]
  cases hq : t.many with
  | zero => omega
  | succ k => rfl
end El

set_option Elab.async false
set_option linter.all false
set_option maxHeartbeats 2000000
namespace El
def blkM (t : Tn) (n : Nat) (w : List Nat) (k : Nat) : List Nat := mapW t ((w.drop (k * n)).take n)
def meetM (t : Tn) (n : Nat) (w : List Nat) : List Nat := (List.range (w.length / n)).filter fun k => metB (blkM t n w k)
section
variable {t : Tn} {n : Nat} {w : List Nat}
theorem take_succ_blk (k : Nat) : w.take ((k + 1) * n) = w.take (k * n) ++ (w.drop (k * n)).take n := by
  rw [Nat.succ_mul, List.take_add]
theorem blk_ok (hs : ∀ s ∈ w, s < t.maps.length) (k : Nat) : ∀ s ∈ (w.drop (k * n)).take n, s < t.maps.length := fun s h => hs s (List.mem_of_mem_drop (List.mem_of_mem_take h))
theorem take_ok (hs : ∀ s ∈ w, s < t.maps.length) (k : Nat) : ∀ s ∈ w.take k, s < t.maps.length := fun s h => hs s (List.mem_of_mem_take h)
theorem map_succ (hs : ∀ s ∈ w, s < t.maps.length) (k : Nat) : mapW t (w.take ((k + 1) * n)) = thenM (mapW t (w.take (k * n))) (blkM t n w k) := by
  rw [take_succ_blk, mapW_app (take_ok hs _) (blk_ok hs k)]
  rfl
def roInv (t : Tn) (n : Nat) (w : List Nat) (k : Nat) : Option Nat → Prop
  | none => (List.range k).filter (fun k => metB (blkM t n w k)) = []
  | some s => ∃ i0, i0 < k ∧ (List.range k).filter (fun k => metB (blkM t n w k)) = [i0] ∧ mapW t (w.take (k * n)) = List.replicate t.many s ∧ metB (mapW t ((w.take (k * n)).drop (i0 * n))) = true
def roEnd (t : Tn) (n : Nat) (w : List Nat) (L : Nat) : Option (Nat × Nat) → Prop
  | none => ((List.range L).filter (fun k => metB (blkM t n w k))).length < 2
  | some (s, k) => ∃ i0 i1 rest, (List.range L).filter (fun k => metB (blkM t n w k)) = i0 :: i1 :: rest ∧ k = i1 + 1 ∧ i0 < i1 ∧ i1 < L ∧ mapW t (w.take (i1 * n)) = List.replicate t.many s ∧ metB (mapW t ((w.take (i1 * n)).drop (i0 * n))) = true
theorem roLoop_spec (hs : ∀ s ∈ w, s < t.maps.length) (L : Nat) (hL : L * n ≤ w.length) : ∀ (r k : Nat) (st : Option Nat), k + r = L → roInv t n w k st → roEnd t n w L (roLoop t n w r k st)
  | 0, k, st, hk, h => by
    have : k = L := by omega
    subst this
    show ((List.range k).filter (fun k => metB (blkM t n w k))).length < 2
    cases st with
    | none => rw [show (List.range k).filter _ = [] from h]; exact Nat.zero_lt_succ _
    | some s => obtain ⟨i0, _, e, _⟩ := h; rw [e]; exact Nat.lt_succ_self _
  | r + 1, k, none, hk, h => by
    have t0 := t.h0
    refine roLoop_spec hs L hL r (k + 1) _ (by omega) ?_
    have him : IsMap t.many (blkM t n w k) := isMap_mapW (blk_ok hs k)
    show roInv t n w (k + 1) (plc (blkM t n w k))
    unfold plc
    have e0 : (List.range k).filter (fun k => metB (blkM t n w k)) = [] := h
    by_cases hm : metB (blkM t n w k) = true
    · rw [if_pos hm]
      refine ⟨k, Nat.lt_succ_self k, ?_, ?_, ?_⟩
      · rw [List.range_succ, List.filter_append, e0, List.filter_cons, if_pos hm]
        rfl
      · rw [map_succ hs, metB_const him t0 hm, then_const (isMap_mapW (take_ok hs _))]
        cases hq : t.many with
        | zero => omega
        | succ k => rfl
      · rw [take_succ_blk]
        have hl : (w.take (k * n)).length = k * n := by
          rw [List.length_take]
          have : k * n ≤ L * n := Nat.mul_le_mul_right _ (by omega)
          omega
        rw [List.drop_append_of_le_length (by omega), List.drop_of_length_le (by omega)]
        exact hm
    · rw [if_neg hm]
      show (List.range (k + 1)).filter _ = []
      rw [List.range_succ, List.filter_append, e0, List.filter_cons, if_neg hm]
      rfl
  | r + 1, k, some s, hk, h => by
    have t0 := t.h0
    have him : IsMap t.many (blkM t n w k) := isMap_mapW (blk_ok hs k)
    obtain ⟨i0, hi, e0, e1, e2⟩ := h
    show roEnd t n w L (if metB (blkM t n w k) = true then some (s, k + 1) else roLoop t n w r (k + 1) (some ((blkM t n w k).getD s 0)))
    by_cases hm : metB (blkM t n w k) = true
    · rw [if_pos hm]
      refine ⟨i0, k, (List.range' (k + 1) r).filter (fun k => metB (blkM t n w k)), ?_, rfl, hi, by omega, e1, e2⟩
      have : List.range L = List.range k ++ (k :: List.range' (k + 1) r) := by
        rw [← hk, List.range_eq_range', List.range_eq_range', ← List.range'_append_1, Nat.zero_add]
        rfl
      rw [this, List.filter_append, e0, List.filter_cons, if_pos hm]
      rfl
    · rw [if_neg hm]
      refine roLoop_spec hs L hL r (k + 1) _ (by omega) ⟨i0, by omega, ?_, ?_, ?_⟩
      · rw [List.range_succ, List.filter_append, e0, List.filter_cons, if_neg hm]
        rfl
      · rw [map_succ hs, e1, const_then]
      · have hl : (w.take (k * n)).length = k * n := by
          rw [List.length_take]
          have : k * n ≤ L * n := Nat.mul_le_mul_right _ (by omega)
          omega
        have hi2 : i0 * n ≤ k * n := Nat.mul_le_mul_right _ (by omega)
        rw [take_succ_blk, List.drop_append_of_le_length (by omega), mapW_app (fun s h => take_ok hs _ s (List.mem_of_mem_drop h)) (blk_ok hs k)]
        rw [metB_const (isMap_mapW (fun s h => take_ok hs _ s (List.mem_of_mem_drop h))) t0 e2, const_then]
        exact metB_repl t0
/-- the whole of the law -/
theorem once_law (hs : ∀ s ∈ w, s < t.maps.length) : match readOnceM t n w with
    | none => (meetM t n w).length < 2
    | some (s, k) => ∃ i0 i1 rest, meetM t n w = i0 :: i1 :: rest ∧ k = i1 + 1 ∧ i0 < i1 ∧ i1 * n ≤ w.length ∧ mapW t (w.take (i1 * n)) = List.replicate t.many s ∧ ∃ u, drawnM t (w.take (i1 * n)).reverse = some (s, u) ∧ u ≤ (i1 - i0) * n := by
  have t0 := t.h0
  have h := roLoop_spec (n := n) hs (w.length / n) (Nat.div_mul_le_self _ _) (w.length / n) 0 none (by omega) rfl
  unfold readOnceM
  revert h
  cases roLoop t n w (w.length / n) 0 none with
  | none => exact fun h => h
  | some p =>
    obtain ⟨s, k⟩ := p
    rintro ⟨i0, i1, rest, e1, e2, e3, e4, e5, e6⟩
    have hle : i1 * n ≤ w.length := Nat.le_trans (Nat.mul_le_mul_right n (Nat.le_of_lt e4)) (Nat.div_mul_le_self _ _)
    have hlen : (w.take (i1 * n)).length = i1 * n := by rw [List.length_take]; omega
    have hi : i0 * n ≤ i1 * n := Nat.mul_le_mul_right _ (by omega)
    have hj : i1 * n - (i1 - i0) * n = i0 * n := by rw [← Nat.sub_mul, show i1 - (i1 - i0) = i0 by omega]
    have hjl : (i1 - i0) * n ≤ i1 * n := Nat.mul_le_mul_right _ (by omega)
    obtain ⟨u, hu, hd⟩ := drawn_of_met (t := t) (w := (w.take (i1 * n)).reverse) (fun s h => take_ok hs _ s (List.mem_reverse.mp h)) (j := (i1 - i0) * n) (by rw [List.length_reverse]; omega) (by
      rw [List.take_reverse, List.reverse_reverse, hlen, hj]
      exact e6)
    refine ⟨i0, i1, rest, e1, e2, e3, hle, e5, u, ?_, hu⟩
    rw [hd, List.reverse_reverse, e5]
    cases hq : t.many with
    | zero => omega
    | succ k => rfl
end
end El

set_option Elab.async false
set_option linter.all false
set_option maxRecDepth 100000
set_option maxHeartbeats 4000000
namespace K92
open PySem PySem.Spec L2 El
def topS (i : Nat) : Stmt := PySem.Challenge.pw_elderdraw_k92_whole_once_and_elder.main.body.getD i (.Pass ⟨0, 0, 0, 0⟩)
abbrev s_is_whole : Stmt := topS 5
abbrev N_is_whole : List Str := ["thing"]
theorem sc_is_whole : FnScope N_is_whole ["thing"] (defScope s_is_whole) := ⟨rfl, rfl, rfl, by decide +kernel, rfl, by decide +kernel, by decide +kernel⟩
abbrev s_is_between : Stmt := topS 6
abbrev N_is_between : List Str := ["thing", "least", "most"]
theorem sc_is_between : FnScope N_is_between ["thing", "least", "most"] (defScope s_is_between) := ⟨rfl, rfl, rfl, by decide +kernel, rfl, by decide +kernel, by decide +kernel⟩
abbrev s_is_map : Stmt := topS 21
abbrev N_is_map : List Str := ["thing", "many", "to"]
theorem sc_is_map : FnScope N_is_map ["thing", "many"] (defScope s_is_map) := ⟨rfl, rfl, rfl, by decide +kernel, rfl, by decide +kernel, by decide +kernel⟩
abbrev s_Turns_init : Stmt := inClass (topS 22) 0
abbrev N_Turns_init : List Str := ["self", "many", "maps", "one"]
theorem sc_Turns_init : FnScope N_Turns_init ["self", "many", "maps"] (defScope s_Turns_init) := ⟨rfl, rfl, rfl, by decide +kernel, rfl, by decide +kernel, by decide +kernel⟩
abbrev s_Turns_len : Stmt := inClass (topS 22) 2
abbrev N_Turns_len : List Str := ["self"]
theorem sc_Turns_len : FnScope N_Turns_len ["self"] (defScope s_Turns_len) := ⟨rfl, rfl, rfl, by decide +kernel, rfl, by decide +kernel, by decide +kernel⟩
abbrev s_check_signs : Stmt := topS 8
abbrev N_check_signs : List Str := ["turns", "signs", "sign"]
theorem sc_check_signs : FnScope N_check_signs ["turns", "signs"] (defScope s_check_signs) := ⟨rfl, rfl, rfl, by decide +kernel, rfl, by decide +kernel, by decide +kernel⟩
abbrev s_begin_of : Stmt := topS 9
abbrev N_begin_of : List Str := ["turns"]
theorem sc_begin_of : FnScope N_begin_of ["turns"] (defScope s_begin_of) := ⟨rfl, rfl, rfl, by decide +kernel, rfl, by decide +kernel, by decide +kernel⟩
abbrev s_then : Stmt := topS 10
abbrev N_then : List Str := ["first", "second", "place"]
theorem sc_then : FnScope N_then ["first", "second"] (defScope s_then) := ⟨rfl, rfl, rfl, by decide +kernel, rfl, by decide +kernel, by decide +kernel⟩
abbrev s_has_met : Stmt := topS 11
abbrev N_has_met : List Str := ["one"]
theorem sc_has_met : FnScope N_has_met ["one"] (defScope s_has_met) := ⟨rfl, rfl, rfl, by decide +kernel, rfl, by decide +kernel, by decide +kernel⟩
abbrev s_map_of : Stmt := topS 12
abbrev N_map_of : List Str := ["turns", "word", "found", "sign"]
theorem sc_map_of : FnScope N_map_of ["turns", "word"] (defScope s_map_of) := ⟨rfl, rfl, rfl, by decide +kernel, rfl, by decide +kernel, by decide +kernel⟩
abbrev s_read_once : Stmt := topS 14
abbrev N_read_once : List Str := ["turns", "long", "word", "stand", "k", "one"]
theorem sc_read_once : FnScope N_read_once ["turns", "long", "word"] (defScope s_read_once) := ⟨rfl, rfl, rfl, by decide +kernel, rfl, by decide +kernel, by decide +kernel⟩
abbrev s_Draw_init : Stmt := inClass (topS 16) 0
abbrev N_Draw_init : List Str := ["self", "turns"]
theorem sc_Draw_init : FnScope N_Draw_init ["self", "turns"] (defScope s_Draw_init) := ⟨rfl, rfl, rfl, by decide +kernel, rfl, by decide +kernel, by decide +kernel⟩
abbrev s_Draw_place : Stmt := inClass (topS 16) 3
abbrev N_Draw_place : List Str := ["self"]
theorem sc_Draw_place : FnScope N_Draw_place ["self"] (defScope s_Draw_place) := ⟨rfl, rfl, rfl, by decide +kernel, rfl, by decide +kernel, by decide +kernel⟩
abbrev s_Draw_used : Stmt := inClass (topS 16) 4
abbrev N_Draw_used : List Str := ["self"]
theorem sc_Draw_used : FnScope N_Draw_used ["self"] (defScope s_Draw_used) := ⟨rfl, rfl, rfl, by decide +kernel, rfl, by decide +kernel, by decide +kernel⟩
abbrev s_Draw_elder : Stmt := inClass (topS 16) 2
abbrev N_Draw_elder : List Str := ["self", "sign"]
theorem sc_Draw_elder : FnScope N_Draw_elder ["self", "sign"] (defScope s_Draw_elder) := ⟨rfl, rfl, rfl, by decide +kernel, rfl, by decide +kernel, by decide +kernel⟩
abbrev s_drawn : Stmt := topS 17
abbrev N_drawn : List Str := ["turns", "signs", "draw", "sign"]
theorem sc_drawn : FnScope N_drawn ["turns", "signs"] (defScope s_drawn) := ⟨rfl, rfl, rfl, by decide +kernel, rfl, by decide +kernel, by decide +kernel⟩
abbrev s__law_well : Stmt := topS 24
abbrev N__law_well : List Str := ["_law_cell"]
theorem sc__law_well : FnScope N__law_well ["_law_cell"] (defScope s__law_well) := ⟨rfl, rfl, rfl, by decide +kernel, rfl, by decide +kernel, by decide +kernel⟩
abbrev s__law_draw : Stmt := topS 25
abbrev N__law_draw : List Str := ["_law_well_here", "_law_many", "_law_digit", "_law_prime", "_law_number"]
theorem sc__law_draw : FnScope N__law_draw ["_law_well_here", "_law_many"] (defScope s__law_draw) := ⟨rfl, rfl, rfl, by decide +kernel, rfl, by decide +kernel, by decide +kernel⟩
abbrev s__law_one : Stmt := topS 26
abbrev N__law_one : List Str := ["_law_well_here", "_law_some"]
theorem sc__law_one : FnScope N__law_one ["_law_well_here", "_law_some"] (defScope s__law_one) := ⟨rfl, rfl, rfl, by decide +kernel, rfl, by decide +kernel, by decide +kernel⟩
abbrev s__law_map : Stmt := topS 27
abbrev N__law_map : List Str := ["_law_well_here", "_law_many", "_law_way", "_law_to", "_law_place"]
theorem sc__law_map : FnScope N__law_map ["_law_well_here", "_law_many"] (defScope s__law_map) := ⟨rfl, rfl, rfl, by decide +kernel, rfl, by decide +kernel, by decide +kernel⟩
abbrev s__law_turns : Stmt := topS 28
abbrev N__law_turns : List Str := ["_law_well_here", "_law_most", "_law_many", "_law_k"]
theorem sc__law_turns : FnScope N__law_turns ["_law_well_here", "_law_most"] (defScope s__law_turns) := ⟨rfl, rfl, rfl, by decide +kernel, rfl, by decide +kernel, by decide +kernel⟩
abbrev s__law_meeting : Stmt := topS 29
abbrev N__law_meeting : List Str := ["_law_turns_here", "_law_long", "_law_word", "_law_found", "_law_k"]
theorem sc__law_meeting : FnScope N__law_meeting ["_law_turns_here", "_law_long", "_law_word"] (defScope s__law_meeting) := ⟨rfl, rfl, rfl, by decide +kernel, rfl, by decide +kernel, by decide +kernel⟩
abbrev s_law : Stmt := topS 30
abbrev N_law : List Str := ["_law_script", "_law_cell", "_law_well_here", "_law_many", "_law_maps", "_law_turns_here", "_law_long", "_law_word", "_law_k", "_law_met", "_law_found", "_law_begun", "_law_elder"]
theorem sc_law : FnScope N_law ["_law_script"] (defScope s_law) := ⟨rfl, rfl, rfl, by decide +kernel, rfl, by decide +kernel, by decide +kernel⟩
structure Tx (K : PySem.W.Frag) (mg : Str → Option Value) where
  a_is_whole : Addr
  d_is_whole : FuncData
  F_is_whole : Fun K "is_whole" "is_whole" s_is_whole a_is_whole d_is_whole
  b_is_whole : Binds K d_is_whole ["thing"] []
  g_is_whole : mg "is_whole" = some (.ref a_is_whole)
  a_is_between : Addr
  d_is_between : FuncData
  F_is_between : Fun K "is_between" "is_between" s_is_between a_is_between d_is_between
  b_is_between : Binds K d_is_between ["thing", "least", "most"] []
  g_is_between : mg "is_between" = some (.ref a_is_between)
  a_is_map : Addr
  d_is_map : FuncData
  F_is_map : Fun K "is_map" "is_map" s_is_map a_is_map d_is_map
  b_is_map : Binds K d_is_map ["thing", "many"] []
  g_is_map : mg "is_map" = some (.ref a_is_map)
  a_Turns_init : Addr
  d_Turns_init : FuncData
  F_Turns_init : Fun K "__init__" "Turns.__init__" s_Turns_init a_Turns_init d_Turns_init
  b_Turns_init : Binds K d_Turns_init ["self", "many", "maps"] []
  a_Turns_len : Addr
  d_Turns_len : FuncData
  F_Turns_len : Fun K "__len__" "Turns.__len__" s_Turns_len a_Turns_len d_Turns_len
  b_Turns_len : Binds K d_Turns_len ["self"] []
  a_check_signs : Addr
  d_check_signs : FuncData
  F_check_signs : Fun K "check_signs" "check_signs" s_check_signs a_check_signs d_check_signs
  b_check_signs : Binds K d_check_signs ["turns", "signs"] []
  g_check_signs : mg "check_signs" = some (.ref a_check_signs)
  a_begin_of : Addr
  d_begin_of : FuncData
  F_begin_of : Fun K "begin_of" "begin_of" s_begin_of a_begin_of d_begin_of
  b_begin_of : Binds K d_begin_of ["turns"] []
  g_begin_of : mg "begin_of" = some (.ref a_begin_of)
  a_then : Addr
  d_then : FuncData
  F_then : Fun K "then" "then" s_then a_then d_then
  b_then : Binds K d_then ["first", "second"] []
  g_then : mg "then" = some (.ref a_then)
  a_has_met : Addr
  d_has_met : FuncData
  F_has_met : Fun K "has_met" "has_met" s_has_met a_has_met d_has_met
  b_has_met : Binds K d_has_met ["one"] []
  g_has_met : mg "has_met" = some (.ref a_has_met)
  a_map_of : Addr
  d_map_of : FuncData
  F_map_of : Fun K "map_of" "map_of" s_map_of a_map_of d_map_of
  b_map_of : Binds K d_map_of ["turns", "word"] []
  g_map_of : mg "map_of" = some (.ref a_map_of)
  a_read_once : Addr
  d_read_once : FuncData
  F_read_once : Fun K "read_once" "read_once" s_read_once a_read_once d_read_once
  b_read_once : Binds K d_read_once ["turns", "long", "word"] []
  g_read_once : mg "read_once" = some (.ref a_read_once)
  a_Draw_init : Addr
  d_Draw_init : FuncData
  F_Draw_init : Fun K "__init__" "Draw.__init__" s_Draw_init a_Draw_init d_Draw_init
  b_Draw_init : Binds K d_Draw_init ["self", "turns"] []
  a_Draw_place : Addr
  d_Draw_place : FuncData
  F_Draw_place : Fun K "place" "Draw.place" s_Draw_place a_Draw_place d_Draw_place
  b_Draw_place : Binds K d_Draw_place ["self"] []
  a_Draw_used : Addr
  d_Draw_used : FuncData
  F_Draw_used : Fun K "used" "Draw.used" s_Draw_used a_Draw_used d_Draw_used
  b_Draw_used : Binds K d_Draw_used ["self"] []
  a_Draw_elder : Addr
  d_Draw_elder : FuncData
  F_Draw_elder : Fun K "elder" "Draw.elder" s_Draw_elder a_Draw_elder d_Draw_elder
  b_Draw_elder : Binds K d_Draw_elder ["self", "sign"] []
  a_drawn : Addr
  d_drawn : FuncData
  F_drawn : Fun K "drawn" "drawn" s_drawn a_drawn d_drawn
  b_drawn : Binds K d_drawn ["turns", "signs"] []
  g_drawn : mg "drawn" = some (.ref a_drawn)
  a__law_well : Addr
  d__law_well : FuncData
  F__law_well : Fun K "_law_well" "_law_well" s__law_well a__law_well d__law_well
  b__law_well : Binds K d__law_well ["_law_cell"] []
  g__law_well : mg "_law_well" = some (.ref a__law_well)
  a__law_draw : Addr
  d__law_draw : FuncData
  F__law_draw : Fun K "_law_draw" "_law_draw" s__law_draw a__law_draw d__law_draw
  b__law_draw : Binds K d__law_draw ["_law_well_here", "_law_many"] []
  g__law_draw : mg "_law_draw" = some (.ref a__law_draw)
  a__law_one : Addr
  d__law_one : FuncData
  F__law_one : Fun K "_law_one" "_law_one" s__law_one a__law_one d__law_one
  b__law_one : Binds K d__law_one ["_law_well_here", "_law_some"] []
  g__law_one : mg "_law_one" = some (.ref a__law_one)
  a__law_map : Addr
  d__law_map : FuncData
  F__law_map : Fun K "_law_map" "_law_map" s__law_map a__law_map d__law_map
  b__law_map : Binds K d__law_map ["_law_well_here", "_law_many"] []
  g__law_map : mg "_law_map" = some (.ref a__law_map)
  a__law_turns : Addr
  d__law_turns : FuncData
  F__law_turns : Fun K "_law_turns" "_law_turns" s__law_turns a__law_turns d__law_turns
  b__law_turns : Binds K d__law_turns ["_law_well_here", "_law_most"] []
  g__law_turns : mg "_law_turns" = some (.ref a__law_turns)
  a__law_meeting : Addr
  d__law_meeting : FuncData
  F__law_meeting : Fun K "_law_meeting" "_law_meeting" s__law_meeting a__law_meeting d__law_meeting
  b__law_meeting : Binds K d__law_meeting ["_law_turns_here", "_law_long", "_law_word"] []
  g__law_meeting : mg "_law_meeting" = some (.ref a__law_meeting)
  a_law : Addr
  d_law : FuncData
  F_law : Fun K "law" "law" s_law a_law d_law
  b_law : Binds K d_law ["_law_script"] []
  g_law : mg "law" = some (.ref a_law)
  C_Draw : Addr
  cl_Draw : Cls K C_Draw
  g_Draw : mg "Draw" = some (.ref C_Draw)
  mk_Draw : Mk K C_Draw a_Draw_init
  C_Turns : Addr
  cl_Turns : Cls K C_Turns
  g_Turns : mg "Turns" = some (.ref C_Turns)
  mk_Turns : Mk K C_Turns a_Turns_init
  m_Draw_elder : Meth K C_Draw "elder" a_Draw_elder
  m_Draw_place : Meth K C_Draw "place" a_Draw_place
  m_Draw_used : Meth K C_Draw "used" a_Draw_used
  m_Turns_len : Meth K C_Turns "__len__" a_Turns_len
  na_Draw_found : NoAttr K C_Draw "found"
  na_Draw_many : NoAttr K C_Draw "many"
  na_Draw_told : NoAttr K C_Draw "told"
  na_Draw_turns : NoAttr K C_Draw "turns"
  na_Turns_many : NoAttr K C_Turns "many"
  na_Turns_maps : NoAttr K C_Turns "maps"
  z_all : mg "all" = none
  z_bool : mg "bool" = none
  z_int : mg "int" = none
  z_isinstance : mg "isinstance" = none
  z_len : mg "len" = none
  z_list : mg "list" = none
  z_range : mg "range" = none
  z_set : mg "set" = none
  z_tuple : mg "tuple" = none
  t_MOST_PLACES : Tok
  c_MOST_PLACES : mg "MOST_PLACES" = some (.int 32 t_MOST_PLACES)
  t_MOST_SIGNS : Tok
  c_MOST_SIGNS : mg "MOST_SIGNS" = some (.int 200 t_MOST_SIGNS)
section
variable {P : Program} {w : World} {K : PySem.W.Frag} {mg : Str → Option Value} {base : Heap}
local macro_rules | `(tactic| walk_at "rp") => `(tactic| first
  | assumption
  | exact (show _ = _ from rfl)
  | (apply rpm (Gr.ff (by assumption)); (case r => walk_at "rp"); (case m => infer_instance))
  | (apply rpm (by assumption); (case r => walk_at "rp"); (case m => infer_instance)))
local macro_rules | `(tactic| walk_at "ex") => `(tactic| first
  | assumption
  | exact Ex.refl _
  | exact Gr.fh (by assumption)
  | exact Gr.ff (by assumption)
  | (refine' Ex.trans ?_ (Gr.ff (by assumption)); walk_at "ex")
  | (refine' Ex.trans ?_ (by assumption); walk_at "ex"))
local macro_rules | `(tactic| walk_at "sd") => `(tactic| first | trivial | assumption | omega | exact atI_natL (by assumption) | exact ⟨by omega, by omega⟩)
local macro_rules | `(tactic| walk_at "n") => `(tactic| (repeat (first | with_reducible apply sn | with_reducible apply sq | (dsimp only))))
local macro_rules | `(tactic| walk_at "eo") => `(tactic| first
  | with_reducible exact eo_none
  | ((with_reducible apply eo_some); walk_at "ev"))
local macro_rules | `(tactic| walk_at "el") => `(tactic| first
  | with_reducible exact el_nil
  | ((with_reducible apply el_cons); (case h => walk_at "ev"); (case hr => walk_at "el"); (case m => infer_instance)))
local macro_rules | `(tactic| walk_at "et") => `(tactic| first
  | ((with_reducible apply et_test); walk_at "ev")
  | ((with_reducible apply et_B); walk_at "ev")
  | ((with_reducible apply et_not); walk_at "et")
  | ((with_reducible apply et_and); (case h1 => walk_at "et"); (case h2 => intro hh; clear hh; walk_at "et"))
  | ((with_reducible apply et_or); (case h1 => walk_at "et"); (case h2 => intro hh; clear hh; walk_at "et")))
local macro_rules | `(tactic| walk_at "ev") => `(tactic| first
  | with_reducible exact ev_int
  | with_reducible exact ev_bl
  | with_reducible exact ev_str
  | with_reducible exact ev_noneO
  | with_reducible exact ev_non
  | with_reducible exact ev_ty
  | with_reducible exact ev_ref
  | ((with_reducible apply ev_var); (case h => rfl); (case r => walk_at "rp"); (case m => infer_instance))
  | ((with_reducible apply ev_add); (case ha => walk_at "ev"); (case hb => walk_at "ev"))
  | ((with_reducible apply ev_sub); (case ha => walk_at "ev"); (case hb => walk_at "ev"))
  | ((with_reducible apply ev_mul); (case ha => walk_at "ev"); (case hb => walk_at "ev"); (try (case hc => walk_at "sd")))
  | ((with_reducible apply ev_mod); (case ha => walk_at "ev"); (case hb => walk_at "ev"); (try (case hc => walk_at "sd")))
  | ((with_reducible apply ev_fdiv); (case ha => walk_at "ev"); (case hb => walk_at "ev"); (try (case hc => walk_at "sd")))
  | ((with_reducible apply ev_pow); (case ha => walk_at "ev"); (case hb => walk_at "ev"); (try (case hc => walk_at "sd")))
  | ((with_reducible apply ev_lt); (case ha => walk_at "ev"); (case hb => walk_at "ev"))
  | ((with_reducible apply ev_le); (case ha => walk_at "ev"); (case hb => walk_at "ev"))
  | ((with_reducible apply ev_gt); (case ha => walk_at "ev"); (case hb => walk_at "ev"))
  | ((with_reducible apply ev_ge); (case ha => walk_at "ev"); (case hb => walk_at "ev"))
  | ((with_reducible apply ev_chain); (case ha => walk_at "ev"); (case hb => walk_at "ev"); (case hc => walk_at "ev"))
  | ((with_reducible apply ev_eqI); (case ha => walk_at "ev"); (case hb => walk_at "ev"))
  | ((with_reducible apply ev_neI); (case ha => walk_at "ev"); (case hb => walk_at "ev"))
  | ((with_reducible apply ev_eqS); (case ha => walk_at "ev"); (case hb => walk_at "ev"))
  | ((with_reducible apply ev_neS); (case ha => walk_at "ev"); (case hb => walk_at "ev"))
  | ((with_reducible apply ev_isN); (case ha => walk_at "ev"); (case n => infer_instance))
  | ((with_reducible apply ev_notN); (case ha => walk_at "ev"); (case n => infer_instance))
  | ((with_reducible apply ev_neg); walk_at "ev")
  | ((with_reducible apply ev_fld); (case ha => walk_at "ev"); (case c => infer_instance))
  | ((with_reducible apply ev_lenL); walk_at "ev")
  | ((with_reducible apply ev_lenT); walk_at "ev")
  | ((with_reducible apply ev_lenOwn); (case ha => walk_at "ev"); (try (case hz => walk_at "sd")))
  | ((with_reducible apply ev_lenSet); (case ha => walk_at "ev"); (try (case hz => walk_at "sd")))
  | ((with_reducible apply ev_call1); (case ha => walk_at "ev"); (try (case p => walk_at "sd")))
  | ((with_reducible apply ev_call2); (case ha => walk_at "ev"); (case hb => walk_at "ev"); (try (case p => walk_at "sd")); (case m => infer_instance))
  | ((with_reducible apply ev_call3); (case ha => walk_at "ev"); (case hb => walk_at "ev"); (case hc => walk_at "ev"); (try (case p => walk_at "sd")); (case m => infer_instance); (case n => infer_instance))
  | ((with_reducible apply ev_call4); (case ha => walk_at "ev"); (case hb => walk_at "ev"); (case hc => walk_at "ev"); (case hd => walk_at "ev"); (try (case p => walk_at "sd")); (case m => infer_instance); (case n => infer_instance); (case o => infer_instance))
  | ((with_reducible apply ev_meth0); (case ha => walk_at "ev"); (try (case p => walk_at "sd")))
  | ((with_reducible apply ev_meth1); (case ha => walk_at "ev"); (case hb => walk_at "ev"); (try (case p => walk_at "sd")); (case m' => infer_instance))
  | ((with_reducible apply ev_meth2); (case ha => walk_at "ev"); (case hb => walk_at "ev"); (case hc => walk_at "ev"); (try (case p => walk_at "sd")); (case m' => infer_instance); (case n' => infer_instance))
  | ((with_reducible apply ev_fst); (case ha => walk_at "ev"); (case m => infer_instance))
  | ((with_reducible apply ev_snd); (case ha => walk_at "ev"); (case m => infer_instance))
  | ((with_reducible apply ev_ixL); (case ha => walk_at "ev"); (case hb => walk_at "ev"); (try (case h => walk_at "sd")); (case m => infer_instance))
  | ((with_reducible apply ev_ixT); (case ha => walk_at "ev"); (case hb => walk_at "ev"); (try (case h => walk_at "sd")); (case m => infer_instance))
  | ((with_reducible apply ev_isIntInt); walk_at "ev")
  | ((with_reducible apply ev_isIntBool); walk_at "ev")
  | ((with_reducible apply ev_isTup); walk_at "ev")
  | ((with_reducible apply ev_isLst); walk_at "ev")
  | ((with_reducible apply ev_isStr); walk_at "ev")
  | ((with_reducible apply ev_tupL); (case ha => walk_at "ev"); (case m => infer_instance))
  | ((with_reducible apply ev_listL); (case ha => walk_at "ev"); (case m => infer_instance))
  | ((with_reducible apply ev_listT); (case ha => walk_at "ev"); (case m => infer_instance))
  | ((with_reducible apply ev_tupRg); (case ha => walk_at "ev"); (try (case hn => walk_at "sd")))
  | ((with_reducible apply ev_lstRg); (case ha => walk_at "ev"); (try (case hn => walk_at "sd")))
  | ((with_reducible apply ev_all); walk_at "ev")
  | ((with_reducible apply ev_any); walk_at "ev")
  | ((with_reducible apply ev_sum); walk_at "ev")
  | ((with_reducible apply ev_notV); walk_at "ev")
  | ((with_reducible apply ev_andV); (case h1 => walk_at "ev"); (case h2 => intro hh; clear hh; walk_at "ev"))
  | ((with_reducible apply ev_orV); (case h1 => walk_at "ev"); (case h2 => intro hh; clear hh; walk_at "ev"))
  | ((with_reducible apply ev_cat); (case ha => walk_at "ev"); (case hb => walk_at "ev"); (try (case hz => walk_at "sd")); (case m => infer_instance))
  | ((with_reducible apply ev_lst); (case h => walk_at "el"); (try (case hz => simp only [List.length_cons, List.length_nil, sizeLine_eq]; omega)); (case m => infer_instance))
  | ((with_reducible apply ev_tup); (case h => walk_at "el"); (try (case hz => simp only [List.length_cons, List.length_nil, sizeLine_eq]; omega)); (case m => infer_instance))
  | ((with_reducible apply ev_pr); (case ha => walk_at "ev"); (case hb => walk_at "ev"); (case m => infer_instance); (case n => infer_instance))
  | ((with_reducible apply ev_slL); (case h => walk_at "ev"); (case h1 => walk_at "eo"); (case h2 => walk_at "eo"); (case m => infer_instance))
  | ((with_reducible apply ev_rep1); (case ha => walk_at "ev"); (case hb => walk_at "ev"); (try (case hn => walk_at "sd")); (try (case h0 => walk_at "sd")); (case m => infer_instance))
  | ((with_reducible apply Ev.nat); walk_at "ev"))

abbrev sp_is_whole (T : Tx K mg) : Sp := Sp1 rInt (fun _ => True) rBl (fun _ => true)
theorem ok_is_whole (T : Tx K mg) : FnOk P w K mg base CX0 1 T.a_is_whole T.d_is_whole ["thing"] (sp_is_whole T) := by
  refine T.F_is_whole.ok sc_is_whole (fun vs H Q E h => SpLen.len h) (fun cdv A outer s H vs Q E hr h => ?_)
  obtain ⟨F, v, x, rfl, e, r, -, k⟩ := h
  refine ⟨_, (by exact (pss_one (ps_ret (pe_and (pe_callB (r := rIsi K) call_isi (by rfl) T.z_isinstance (by decide +kernel) (pa_cons (pv 0) (pa_cons (pe_bltn (v := .ty "int") (by rfl) T.z_int (by decide +kernel) rfl) pa_nil))) (pe_one (pe_not (pe_callB (r := rIsi K) call_isi (by rfl) T.z_isinstance (by decide +kernel) (pa_cons (pv 0) (pa_cons (pe_bltn (v := .ty "bool") (by rfl) T.z_bool (by decide +kernel) rfl) pa_nil))))))))), ?_⟩
  try dsimp only [cxOf]
  apply x_ret e
  case h => walk_at "ev"
  exact k

abbrev sp_is_between (T : Tx K mg) : Sp := Sp3 rInt rInt rInt (fun _ _ _ => True) rBl (fun x y z => decide (y ≤ x) && decide (x ≤ z))
theorem ok_is_between (T : Tx K mg) : FnOk P w K mg base CX0 2 T.a_is_between T.d_is_between ["thing", "least", "most"] (sp_is_between T) := by
  refine T.F_is_between.ok sc_is_between (fun vs H Q E h => SpLen.len h) (fun cdv A outer s H vs Q E hr h => ?_)
  obtain ⟨F, v, w, u, x, y, z, rfl, e, r1, r2, r3, -, k⟩ := h
  refine ⟨_, (by exact (pss_one (ps_ret (pe_and (pe_call (ok_is_whole T) (hr.mono (by decide)) rfl T.g_is_whole T.F_is_whole.kp T.b_is_whole .nil pass0 (pa_cons (pv 0) pa_nil)) (pe_one (pe_chain op_le op_le (pv 1) (pv 0) (pv 2))))))), ?_⟩
  try dsimp only [cxOf]
  apply x_ret e
  case h => walk_at "ev"
  intro v F' H' g r
  rw [Bool.true_and] at r
  exact k v F' H' g r

instance {T : Tx K mg} : IsF (rTurns T.C_Turns) K "many" rNat Tn.many := fld_many T.cl_Turns T.na_Turns_many
instance {T : Tx K mg} : IsF (rTurns T.C_Turns) K "maps" (rLst (rTup rNat)) Tn.maps := fld_maps T.cl_Turns T.na_Turns_maps
abbrev sp_is_map (T : Tx K mg) : Sp := Sp2 (rTup rNat) rNat (fun m n => IsMap n m ∧ n ≤ 1000) rBl (fun _ _ => true)
theorem ok_is_map (T : Tx K mg) : FnOk P w K mg base CX0 3 T.a_is_map T.d_is_map ["thing", "many"] (sp_is_map T) := by
  refine T.F_is_map.ok sc_is_map (fun vs H Q E h => SpLen.len h) (fun cdv A outer s H vs Q E hr h => ?_)
  obtain ⟨F, v, w, m, n, rfl, e, r1, r2, ⟨p, pn⟩, k⟩ := h
  cases (show w = _ from r2)
  refine ⟨_, (by exact (pss_one (ps_ret (pe_and (pe_callB (r := rIsi K) call_isi (by rfl) T.z_isinstance (by decide +kernel) (pa_cons (pv 0) (pa_cons (pe_bltn (v := .ty "tuple") (by rfl) T.z_tuple (by decide +kernel) rfl) pa_nil))) (pe_and (pe_cmpR op_eq (pe_callB (r := rLenS K) call_len_seq (by rfl) T.z_len PySem.boot_len (pa_cons (pv 0) pa_nil)) (pv 1) (nomark _)) (pe_one (pe_callB (r := rAll K) (cr_all rfl) (by rfl) T.z_all (by decide +kernel) (pa_cons (pe_lc (own := [("to", 2)]) (g := gName 2) (tt := tYes) rfl sc_is_map.nd (ktup K (pv 0)) (blkOk_by (own := [("to", 2)]) (N := N_is_map) (sc := defScope s_is_map) (by decide +kernel)) (fun _ _ _ _ _ => (pg_name (i := 2) sc_is_map.nd rfl (by first | exact Or.inl rfl | exact Or.inr rfl))) (fun _ _ _ _ _ => pts_nil) (fun _ _ _ _ _ => (pe_call (ok_is_between T) (hr.mono (by decide)) rfl T.g_is_between T.F_is_between.kp T.b_is_between .nil pass0 (pa_cons (pv 2) (pa_cons pe_int (pa_cons (pe_op op_sub (pv 1) pe_int) pa_nil)))))) pa_nil)))))))), ?_⟩
  try dsimp only [cxOf]
  apply x_ret e
  case h =>
    refine ev_andV (a := true) (b := true) ?_ fun _ => ev_andV (a := true) (b := true) ?_ fun _ => ?_
    · walk_at "ev"
    · exact (Ev.is (ev_eqI (ev_lenT (ev_var rfl r1)) (ev_var rfl rfl)) (by rw [p.1]; simp))
    · refine (ev_all (ev_lcTm (R := rNat) (fun _ => true) (ev_var rfl r1) (by rw [p.1]; omega) (fun v => rfl) ?_)).is (List.all_eq_true.mpr fun b hb => ?_)
      · intro i x v F1 H1 hx g r
        cases (show v = _ from r)
        have := p.2 x (mem_of_at hx)
        apply Ev.is
        · walk_at "ev"
        · rw [decide_eq_true (by omega), decide_eq_true (by omega)] <;> rfl
      · obtain ⟨x, hx, rfl⟩ := List.mem_map.mp hb
        rfl
  exact k
abbrev sp_Turns_init (T : Tx K mg) : Sp := SpTurns T.C_Turns
theorem ok_Turns_init (T : Tx K mg) : FnOk P w K mg base CX0 4 T.a_Turns_init T.d_Turns_init ["self", "many", "maps"] (sp_Turns_init T) := by
  refine T.F_Turns_init.ok sc_Turns_init (fun vs H Q E h => SpLen.len h) (fun cdv A outer s H vs Q E hr h => ?_)
  obtain ⟨F, a, dx, l, t, rfl, e, fa, ha, rl, k⟩ := h
  have t0 := t.h0
  have t1 := t.h1
  have t2 := t.h2
  have t3 := t.h3
  refine ⟨_, (by exact (pss_cons (ps_if (pt_not (pt_val (pe_call (ok_is_between T) (hr.mono (by decide)) rfl T.g_is_between T.F_is_between.kp T.b_is_between .nil pass0 (pa_cons (pv 1) (pa_cons pe_int (pa_cons (pe_glob (v := .int 32) rfl T.c_MOST_PLACES ⟨_, rfl⟩) pa_nil)))))) (pss_one ps_never) pss_nil)
      (pss_cons (ps_if (PW.pt (pw_or (pt_not (pt_val (pe_callB (r := rIsi K) call_isi (by rfl) T.z_isinstance (by decide +kernel) (pa_cons (pv 2) (pa_cons (pe_bltn (v := .ty "list") (by rfl) T.z_list (by decide +kernel) rfl) pa_nil))))) (pw_or1 (pt_not (pt_chain op_le op_le pe_int (pe_callB (r := rLenS K) call_len_seq (by rfl) T.z_len PySem.boot_len (pa_cons (pv 2) pa_nil)) (pe_glob (v := .int 200) rfl T.c_MOST_SIGNS ⟨_, rfl⟩)))))) (pss_one ps_never) pss_nil)
      (pss_cons (ps_if (pt_not (pt_val (pe_callB (r := rAll K) (cr_all rfl) (by rfl) T.z_all (by decide +kernel) (pa_cons (pe_lc (own := [("one", 3)]) (g := gName 3) (tt := tYes) rfl sc_Turns_init.nd (klist K (pv 2)) (blkOk_by (own := [("one", 3)]) (N := N_Turns_init) (sc := defScope s_Turns_init) (by decide +kernel)) (fun _ _ _ _ _ => (pg_name (i := 3) sc_Turns_init.nd rfl (by first | exact Or.inl rfl | exact Or.inr rfl))) (fun _ _ _ _ _ => pts_nil) (fun _ _ _ _ _ => (pe_call (ok_is_map T) (hr.mono (by decide)) rfl T.g_is_map T.F_is_map.kp T.b_is_map .nil pass0 (pa_cons (pv 3) (pa_cons (pv 1) pa_nil))))) pa_nil)))) (pss_one ps_never) pss_nil)
      (pss_cons (kset K (pv 0) (pv 1) rfl)
      (pss_one (kset K (pv 0) (pe_callTy (r := rListS K) call_list_of (by rfl) T.z_list (by decide +kernel) (pa_cons (pv 2) pa_nil)) rfl))))))), ?_⟩
  try dsimp only [cxOf]
  refine x_if (b := false) e (EvT.is (b := !true) ?_ rfl) (fun z => nomatch z) fun _ F1 H1 g1 => ?_
  · apply et_not
    apply et_B
    apply Ev.is
    · walk_at "ev"
    · rw [decide_eq_true (by omega), decide_eq_true (by omega)] <;> rfl
  walk_at "n"
  refine x_if (b := false) g1.fh (EvT.is (b := false || false) ?_ rfl) (fun z => nomatch z) fun _ F2 H2 g2 => ?_
  · refine et_or (EvT.is (b := !true) (et_not (et_B ?_)) rfl) fun _ => EvT.is (b := !true) (et_not (et_test ?_)) rfl
    · walk_at "ev"
    · apply Ev.is
      · walk_at "ev"
      · rw [decide_eq_true (by omega), decide_eq_true (by omega)] <;> rfl
  walk_at "n"
  refine x_if (b := false) g2.fh (EvT.is (b := !true) (et_not (et_B ?_)) rfl) (fun z => nomatch z) fun _ F3 H3 g3 => ?_
  · refine (ev_all (ev_lcm (R := rTup rNat) (fun _ => true) (ev_var rfl (by walk_at "rp")) (by omega) (fun v => rfl) ?_)).is (List.all_eq_true.mpr fun b hb => ?_)
    · intro i x v F1 H1 hx g r
      have := t.h4 x (mem_of_at hx)
      refine ev_call2 (ev_var rfl r) (ev_var rfl rfl) ⟨this, by omega⟩
    · obtain ⟨x, hx, rfl⟩ := List.mem_map.mp hb
      rfl
  walk_at "n"
  refine x_fld g3.fh (ev_var rfl (show rInt _ _ (t.many : Int) from rfl)) (ev_var rfl (show rRef _ _ a from rfl)) (g3.hx _ _ (g2.hx _ _ (g1.hx _ _ ha))) T.cl_Turns T.na_Turns_many (by decide) fun v F4 H4 g4 r4 h4 => ?_
  cases (show v = _ from r4)
  have g := (g1.trans g2).trans (g3.trans g4)
  have f4 : F4 a = none := g.nn ha fa
  have gg : Gr (El.M1 a) F H F4 (upd H4 a (.ins T.C_Turns dx (putF "many" (V.int t.many) []))) := g.up.set' f4 (.inr rfl)
  walk_at "n"
  refine x_fld gg.fh (ev_listL (ev_var rfl (by walk_at "rp"))) (ev_var rfl (show rRef _ _ a from rfl)) upd_same T.cl_Turns T.na_Turns_maps (by show 1 < 1000; decide) fun v F5 H5 g5 r5 h5 => ?_
  have g6 := (gg.trans g5.up).set' (o := .ins T.C_Turns dx (putF "maps" v (putF "many" (V.int t.many) []))) (g5.nn upd_same f4) (.inr rfl)
  exact k _ _ (g6.frz upd_same fa (.inr rfl)) ⟨a, dx, v, rfl, upd_same, Mn.mono (Ex.frz g6.fh upd_same (g5.nn upd_same f4)) r5⟩
abbrev sp_Turns_len (T : Tx K mg) : Sp := Sp1 (rTurns T.C_Turns) (fun _ => True) rNat (fun t => t.maps.length)
theorem ok_Turns_len (T : Tx K mg) : FnOk P w K mg base CX0 1 T.a_Turns_len T.d_Turns_len ["self"] (sp_Turns_len T) := by
  refine T.F_Turns_len.ok sc_Turns_len (fun vs H Q E h => SpLen.len h) (fun cdv A outer s H vs Q E hr h => ?_)
  obtain ⟨F, v, t, rfl, e, r, -, k⟩ := h
  refine ⟨_, (by exact (pss_one (ps_ret (pe_callB (r := rLenS K) call_len_seq (by rfl) T.z_len PySem.boot_len (pa_cons (kfld K (pv 0) rfl) pa_nil))))), ?_⟩
  try dsimp only [cxOf]
  apply x_ret e
  case h => walk_at "ev"
  exact k

abbrev sp_check_signs (T : Tx K mg) : Sp := Sp2 (rTurns T.C_Turns) (rLst rNat) (fun t w => ∀ s ∈ w, s < t.maps.length) rNon (fun _ _ => ())
theorem ok_check_signs (T : Tx K mg) : FnOk P w K mg base CX0 3 T.a_check_signs T.d_check_signs ["turns", "signs"] (sp_check_signs T) := by
  refine T.F_check_signs.ok sc_check_signs (fun vs H Q E h => SpLen.len h) (fun cdv A outer s H vs Q E hr h => ?_)
  obtain ⟨F, v, w, t, xs, rfl, e, r1, r2, p, k⟩ := h
  have t3 := t.h3
  refine ⟨_, (by exact (pss_one (ps_for PassesOwn.never rfl (klist K (pv 1)) (pg_name (i := 2) sc_check_signs.nd rfl (by first | exact Or.inl rfl | exact Or.inr rfl)) (pss_one (ps_if (pt_not (pt_val (pe_call (ok_is_between T) (hr.mono (by decide)) rfl T.g_is_between T.F_is_between.kp T.b_is_between .nil pass0 (pa_cons (pv 2) (pa_cons pe_int (pa_cons (pe_op op_sub (pe_callB (call_lenOwn (ok_Turns_len T) (hr.mono (by decide)) T.m_Turns_len.at_ T.m_Turns_len.fn T.b_Turns_len pass0) (by rfl) T.z_len PySem.boot_len (pa_cons (pv 0) pa_nil)) pe_int) pa_nil)))))) (pss_one ps_never) pss_nil))))), ?_⟩
  try dsimp only [cxOf]
  refine x_forL e (ev_var rfl r2) (fun i σ' F' H' => Gr M0 F H F' H' ∧ ∃ y, σ' = [some v, some w, y]) (fun F1 H1 g => ⟨g, none, rfl⟩) ?_ ?_
  · rintro F1 e1 i x u σ' F' H' hx e2 e3 r ⟨g, y, rfl⟩
    cases (show u = _ from r)
    have hs := p x (mem_of_at hx)
    refine x_if (b := false) g.fh (EvT.is (b := !true) (et_not (et_B ?_)) rfl) (fun z => nomatch z) fun _ F3 H3 g3 => ?_
    · apply Ev.is
      · walk_at "ev"
      · rw [decide_eq_true (by omega), decide_eq_true (by omega)] <;> rfl
    walk_at "n"
    exact ⟨F3, e2.trans g3.ff, g3.fh, g.trans g3, _, rfl⟩
  · rintro σ' F' H' e1 e2 ⟨g, y, rfl⟩
    exact k _ F' H' g rfl
abbrev sp_begin_of (T : Tx K mg) : Sp := Sp1 (rTurns T.C_Turns) (fun _ => True) (rTup rNat) (fun t => idMap t.many)
theorem ok_begin_of (T : Tx K mg) : FnOk P w K mg base CX0 1 T.a_begin_of T.d_begin_of ["turns"] (sp_begin_of T) := by
  refine T.F_begin_of.ok sc_begin_of (fun vs H Q E h => SpLen.len h) (fun cdv A outer s H vs Q E hr h => ?_)
  obtain ⟨F, v, t, rfl, e, r, -, k⟩ := h
  have t1 := t.h1
  refine ⟨_, (by exact (pss_one (ps_ret (pe_tupRg rfl (by rfl) T.z_tuple (prg_1 (by rfl) T.z_range (kfld K (pv 0) rfl)))))), ?_⟩
  try dsimp only [cxOf]
  apply x_ret e
  case h => walk_at "ev"
  exact k
abbrev sp_then (T : Tx K mg) : Sp := Sp2 (rTup rNat) (rTup rNat) (fun a b => a.length ≤ 1000 ∧ ∀ x ∈ a, x < b.length) (rTup rNat) thenM
theorem ok_then (T : Tx K mg) : FnOk P w K mg base CX0 1 T.a_then T.d_then ["first", "second"] (sp_then T) := by
  refine T.F_then.ok sc_then (fun vs H Q E h => SpLen.len h) (fun cdv A outer s H vs Q E hr h => ?_)
  obtain ⟨F, v, w, a, b, rfl, e, r1, r2, ⟨p1, p2⟩, k⟩ := h
  refine ⟨_, (by exact (pss_one (ps_ret (pe_callTy (r := rTupS K) call_tuple_of (by rfl) T.z_tuple (by decide +kernel) (pa_cons (pe_lc (own := [("place", 2)]) (g := gName 2) (tt := tYes) rfl sc_then.nd (ktup K (pv 0)) (blkOk_by (own := [("place", 2)]) (N := N_then) (sc := defScope s_then) (by decide +kernel)) (fun _ _ _ _ _ => (pg_name (i := 2) sc_then.nd rfl (by first | exact Or.inl rfl | exact Or.inr rfl))) (fun _ _ _ _ _ => pts_nil) (fun _ _ _ _ _ => (pe_ix (r := rIxT K) ix_tup (pv 1) (pv 2) (fun _ _ => rfl)))) pa_nil))))), ?_⟩
  try dsimp only [cxOf]
  refine x_ret (x := thenM a b) e (ev_tupL (ev_lcTm (R := rNat) (fun x => b.getD x 0) (ev_var rfl r1) (by omega) (fun v => rfl) ?_)) k
  intro i x v F1 H1 hx g r
  cases (show v = _ from r)
  exact ev_ixT (ev_var rfl (Mn.mono g.ff r2)) (ev_var rfl rfl) (atI_natL (getD_at (p2 x (mem_of_at hx))))
abbrev sp_has_met (T : Tx K mg) : Sp := Sp1 (rTup rNat) (fun a => a.length ≤ 1000) rBl metB
theorem decide_nat1 {n : Nat} : decide ((n : Int) = 1) = decide (n = 1) := by
  by_cases h : n = 1
  · rw [decide_eq_true h, decide_eq_true (by omega)]
  · rw [decide_eq_false h, decide_eq_false (by omega)]
theorem ok_has_met (T : Tx K mg) : FnOk P w K mg base CX0 1 T.a_has_met T.d_has_met ["one"] (sp_has_met T) := by
  refine T.F_has_met.ok sc_has_met (fun vs H Q E h => SpLen.len h) (fun cdv A outer s H vs Q E hr h => ?_)
  obtain ⟨F, v, a, rfl, e, r, p, k⟩ := h
  refine ⟨_, (by exact (pss_one (ps_ret (pe_cmpR op_eq (klenset K (by rfl) T.z_len (by rfl) T.z_set (pv 0)) pe_int (nomark _))))), ?_⟩
  try dsimp only [cxOf]
  apply x_ret e
  case h => walk_at "ev"
  intro w F' H' g r
  exact k w F' H' g (by rw [decide_nat1] at r; exact r)
abbrev sp_map_of (T : Tx K mg) : Sp := Sp2 (rTurns T.C_Turns) (rLst rNat) (fun t w => ∀ s ∈ w, s < t.maps.length) (rTup rNat) mapW
theorem ok_map_of (T : Tx K mg) : FnOk P w K mg base CX0 4 T.a_map_of T.d_map_of ["turns", "word"] (sp_map_of T) := by
  refine T.F_map_of.ok sc_map_of (fun vs H Q E h => SpLen.len h) (fun cdv A outer s H vs Q E hr h => ?_)
  obtain ⟨F, v, w, t, xs, rfl, e, r1, r2, p, k⟩ := h
  have t1 := t.h1
  refine ⟨_, (by exact (pss_cons (ps_expr (pe_call (ok_check_signs T) (hr.mono (by decide)) rfl T.g_check_signs T.F_check_signs.kp T.b_check_signs .nil pass0 (pa_cons (pv 0) (pa_cons (pv 1) pa_nil))))
      (pss_cons (ps_set (i := 2) sc_map_of.nd rfl (Or.inl rfl) (pe_call (ok_begin_of T) (hr.mono (by decide)) rfl T.g_begin_of T.F_begin_of.kp T.b_begin_of .nil pass0 (pa_cons (pv 0) pa_nil)))
      (pss_cons (ps_for PassesOwn.never rfl (klist K (pv 1)) (pg_name (i := 3) sc_map_of.nd rfl (by first | exact Or.inl rfl | exact Or.inr rfl)) (pss_one (ps_set (i := 2) sc_map_of.nd rfl (Or.inl rfl) (pe_call (ok_then T) (hr.mono (by decide)) rfl T.g_then T.F_then.kp T.b_then .nil pass0 (pa_cons (pv 2) (pa_cons (pe_ix (r := rIxL K) ix_list (kfld K (pv 0) rfl) (pv 3) (fun _ _ => rfl)) pa_nil))))))
      (pss_one (ps_ret (pv 2))))))), ?_⟩
  try dsimp only [cxOf]
  walk_at "n"
  refine x_drop e (ev_call2 (ev_var rfl r1) (ev_var rfl r2) p) fun F1 H1 g1 => ?_
  walk_at "n"
  refine x_set g1.fh (ev_call1 (ev_var rfl (Mn.mono g1.ff r1)) trivial) fun u F2 H2 g2 r3 => ?_
  walk_at "n"
  refine x_forL g2.fh (ev_var rfl (Mn.mono (g1.ff.trans g2.ff) r2)) (fun i σ' F' H' => Gr M0 F H F' H' ∧ ∃ u y, σ' = [some v, some w, some u, y] ∧ rTup rNat F' u (mapW t (xs.take i))) (fun F3 H3 g => ⟨(g1.trans g2).trans g, u, none, rfl, Mn.mono g.ff r3⟩) ?_ ?_
  · rintro F3 e3 i x u σ' F' H' hx e4 e5 r ⟨g, u', y, rfl, rm⟩
    cases (show u = _ from r)
    have hs := p x (mem_of_at hx)
    have hm : IsMap t.many (mapW t (xs.take i)) := isMap_mapW fun s h => p s (List.mem_of_mem_take h)
    refine x_set e5 (ev_call2 (y := t.maps.getD x []) (ev_var rfl rm) (ev_ixL (ev_fld (ev_var rfl (Mn.mono g.ff r1))) (ev_var rfl rfl) (atI_natL (getD_at hs))) ⟨by rw [hm.1]; omega, fun z hz => ?_⟩) fun w' F6 H6 g6 r6 => ?_
    · rw [(t.isMap hs).1]
      exact hm.2 z hz
    · refine ⟨F6, e4.trans g6.ff, g6.fh, g.trans g6, w', _, rfl, ?_⟩
      have : mapW t (xs.take (i + 1)) = thenM (mapW t (xs.take i)) (t.maps.getD x []) := by
        rw [List.take_add_one, hx]
        unfold mapW mapFrom
        rw [List.foldl_append]
        rfl
      rw [this]
      exact r6
  · rintro σ' F' H' e1 e2 ⟨g, u', y, rfl, rm⟩
    rw [List.take_length] at rm
    exact x_ret e2 (ev_var rfl rm) fun v' F6 H6 g6 r6 => k v' F6 H6 (g.trans g6) r6

abbrev sp_Draw_init (T : Tx K mg) : Sp := SpDraw T.C_Draw T.C_Turns
theorem ok_Draw_init (T : Tx K mg) : FnOk P w K mg base CX0 2 T.a_Draw_init T.d_Draw_init ["self", "turns"] (sp_Draw_init T) := by
  refine T.F_Draw_init.ok sc_Draw_init (fun vs H Q E h => SpLen.len h) (fun cdv A outer s H vs Q E hr h => ?_)
  obtain ⟨F, a, dx, tv, t, rfl, e, fa, ha, rt, k⟩ := h
  refine ⟨_, (by exact (pss_cons (kset K (pv 0) (pv 1) rfl)
      (pss_cons (kset K (pv 0) (pe_call (ok_begin_of T) (hr.mono (by decide)) rfl T.g_begin_of T.F_begin_of.kp T.b_begin_of .nil pass0 (pa_cons (pv 1) pa_nil)) rfl)
      (pss_cons (kset K (pv 0) pe_int rfl)
      (pss_one (kset K (pv 0) (pe_lst pa_nil) rfl)))))), ?_⟩
  walk_at "n"
  have va : ∀ F, rRef F (.ref a) a := fun F => rfl
  refine x_fld e (ev_var rfl rt) (ev_var rfl (va _)) ha T.cl_Draw T.na_Draw_turns (by show 0 < 1000; decide) fun v1 F1 H1 g1 r1 h1 => ?_
  have G1 : Gr (El.M1 a) F H F1 (upd H1 a _) := (g1.up).set' (o := .ins T.C_Draw dx (putF "turns" v1 [])) (g1.nn ha fa) (.inr rfl)
  walk_at "n"
  refine x_fld G1.fh (ev_call1 (ev_var rfl (Mn.mono G1.ff rt)) trivial) (ev_var rfl (va _)) upd_same T.cl_Draw T.na_Draw_found (by show 1 < 1000; decide) fun v2 F2 H2 g2 r2 h2 => ?_
  have f2 : F2 a = none := g2.nn upd_same (g1.nn ha fa)
  have G2 : Gr (El.M1 a) F H F2 (upd H2 a _) := (G1.trans g2.up).set' (o := .ins T.C_Draw dx (putF "found" v2 (putF "turns" v1 []))) f2 (.inr rfl)
  walk_at "n"
  refine x_fld G2.fh ev_int (ev_var rfl (va _)) upd_same T.cl_Draw T.na_Draw_many (by show 2 < 1000; decide) fun v3 F3 H3 g3 r3 h3 => ?_
  have f3 : F3 a = none := g3.nn upd_same f2
  have G3 : Gr (El.M1 a) F H F3 (upd H3 a _) := (G2.trans g3.up).set' (o := .ins T.C_Draw dx (putF "many" v3 (putF "found" v2 (putF "turns" v1 [])))) f3 (.inr rfl)
  cases (show v3 = _ from r3)
  walk_at "n"
  refine ⟨Nat.zero_le _, fun l hl => ⟨.ref a, rfl, a, T.C_Draw, dx, putF "many" (.int 0) (putF "found" v2 (putF "turns" v1 [])), rfl, ?_, T.cl_Draw, T.na_Draw_told, by show 3 < 1000; decide, ?_⟩⟩
  · rw [upd_ne (ne_of_none upd_same hl)]
    exact upd_same
  have hal : a ≠ l := ne_of_none (o := _) upd_same hl
  have hl0 : H l = none := by
    cases q : H l with
    | none => rfl
    | some o => exact absurd hl (G3.dm l (by rw [q]; exact fun z => nomatch z))
  have fl3 : F3 l = none := G3.fh.free hl
  have G4 : Gr (El.M1 a) F H F3 (upd (upd H3 a _) l (.lst [])) := G3.trans (.loc G3.fh hl)
  have G5 := G4.set' (o := .ins T.C_Draw dx (putF "told" (.ref l) (putF "many" (.int 0) (putF "found" v2 (putF "turns" v1 []))))) f3 (.inr rfl)
  refine k l _ _ G5 hl0 ⟨hal, f3, fl3, ⟨dx, v1, v2, upd_same, Mn.mono (g2.ff.trans g3.ff) r1, Mn.mono g3.ff r2⟩, ?_⟩
  rw [upd_ne hal.symm]
  exact upd_same
abbrev sp_Draw_place (T : Tx K mg) : Sp := SpPlace T.C_Draw T.C_Turns
theorem ok_Draw_place (T : Tx K mg) : FnOk P w K mg base CX0 2 T.a_Draw_place T.d_Draw_place ["self"] (sp_Draw_place T) := by
  refine T.F_Draw_place.ok sc_Draw_place (fun vs H Q E h => SpLen.len h) (fun cdv A outer s H vs Q E hr h => ?_)
  obtain ⟨F, a, l, t, m, n, ws, rfl, e, d, hm, k⟩ := h
  have t0 := t.h0
  have t1 := t.h1
  have m1 := hm.1
  refine ⟨_, (by exact (pss_one (ps_ret (pe_ifExp (pt_val (pe_call (ok_has_met T) (hr.mono (by decide)) rfl T.g_has_met T.F_has_met.kp T.b_has_met .nil pass0 (pa_cons (kfld K (pv 0) rfl) pa_nil))) (pe_ix (r := rIxT K) ix_tup (kfld K (pv 0) rfl) pe_int (fun _ _ => rfl)) pe_non)))), ?_⟩
  have va : ∀ F, rRef F (.ref a) a := fun F => rfl
  obtain ⟨dx, tv, fv, h1, h2, h3⟩ := id d.ha
  refine x_ret (R := rOpt rNat) (x := plc m) e ?_ k
  refine ev_if (ev_call1 (ev_fldM (ev_var rfl (va _)) h1 T.cl_Draw T.na_Draw_found rfl h3) (by omega) |> et_B) (fun _ => ?_) (fun _ => ev_noneO)
  exact ev_someO (ev_ixT (ev_fldM (ev_var rfl (va _)) h1 T.cl_Draw T.na_Draw_found rfl h3) ev_int (at0 (by omega)))
abbrev sp_Draw_used (T : Tx K mg) : Sp := SpUsed T.C_Draw T.C_Turns
theorem ok_Draw_used (T : Tx K mg) : FnOk P w K mg base CX0 1 T.a_Draw_used T.d_Draw_used ["self"] (sp_Draw_used T) := by
  refine T.F_Draw_used.ok sc_Draw_used (fun vs H Q E h => SpLen.len h) (fun cdv A outer s H vs Q E hr h => ?_)
  obtain ⟨F, a, l, t, m, n, ws, rfl, e, d, k⟩ := h
  refine ⟨_, (by exact (pss_one (ps_ret (kfld K (pv 0) rfl)))), ?_⟩
  have va : ∀ F, rRef F (.ref a) a := fun F => rfl
  obtain ⟨dx, tv, fv, h1, h2, h3⟩ := id d.ha
  exact x_ret e (ev_fldM (ev_var rfl (va _)) h1 T.cl_Draw T.na_Draw_many rfl (show rNat _ _ n from rfl)) k
abbrev sp_Draw_elder (T : Tx K mg) : Sp := SpElder T.C_Draw T.C_Turns
theorem ok_Draw_elder (T : Tx K mg) : FnOk P w K mg base CX0 4 T.a_Draw_elder T.d_Draw_elder ["self", "sign"] (sp_Draw_elder T) := by
  refine T.F_Draw_elder.ok sc_Draw_elder (fun vs H Q E h => SpLen.len h) (fun cdv A outer s H vs Q E hr h => ?_)
  obtain ⟨F, a, l, t, m, n, ws, s, rfl, e, d, hm, hs, hz, k⟩ := h
  have t0 := t.h0
  have t1 := t.h1
  have m1 := hm.1
  refine ⟨_, (by exact (pss_cons (ps_expr (pe_call (ok_check_signs T) (hr.mono (by decide)) rfl T.g_check_signs T.F_check_signs.kp T.b_check_signs .nil pass0 (pa_cons (kfld K (pv 0) rfl) (pa_cons (pe_lst (pa_cons (pv 1) pa_nil)) pa_nil))))
      (pss_cons (ps_expr (kbm K PySem.F.plainAttrs_list PySem.F.slot_list_append PySem.F.type_list_append mt_append (kfld K (pv 0) rfl) (pa_cons (pv 1) pa_nil)))
      (pss_cons (ps_if (pt_not (pt_val (pe_call (ok_has_met T) (hr.mono (by decide)) rfl T.g_has_met T.F_has_met.kp T.b_has_met .nil pass0 (pa_cons (kfld K (pv 0) rfl) pa_nil)))) (pss_cons (kset K (pv 0) (pe_call (ok_then T) (hr.mono (by decide)) rfl T.g_then T.F_then.kp T.b_then .nil pass0 (pa_cons (pe_ix (r := rIxL K) ix_list (kfld K (kfld K (pv 0) rfl) rfl) (pv 1) (fun _ _ => rfl)) (pa_cons (kfld K (pv 0) rfl) pa_nil))) rfl)
      (pss_one (kaug K (pv 0) pe_int in_add))) pss_nil)
      (pss_one (ps_ret (pe_meth0 (pv 0) T.cl_Draw T.m_Draw_place (ok_Draw_place T) (hr.mono (by decide)) T.b_Draw_place .nil pass0))))))), ?_⟩
  have va : ∀ F, rRef F (.ref a) a := fun F => rfl
  obtain ⟨dx, tv, fv, h1, h2, h3⟩ := id d.ha
  walk_at "n"
  refine x_drop e (ev_call2 (x := t) (y := [s]) (ev_fldM (ev_var rfl (va _)) h1 T.cl_Draw T.na_Draw_turns rfl h2) (ev_lst (R := rNat) (el_cons (ev_var rfl rfl) el_nil) (by show 1 ≤ sizeLine; decide)) ?_) fun F1 H1 g1 => ?_
  · intro x hx
    rw [List.mem_singleton.mp hx]
    exact hs
  have d1 := d.gr g1
  obtain ⟨dx1, tv1, fv1, h11, h12, h13⟩ := id d1.ha
  walk_at "n"
  refine x_app (R := rNat) (x := s) g1.fh (ev_fldM (ev_var rfl (va _)) h11 T.cl_Draw T.na_Draw_told rfl (show rRef _ _ l from rfl)) d1.hl (ev_var rfl rfl) (by rw [sizeLine_eq]; omega) fun v F2 H2 g2 r2 hl2 => ?_
  cases (show v = _ from r2)
  have d2 := d1.gr g2
  have G2 : Gr (fun b => b = a ∨ b = l) F H F2 (upd H2 l (.lst (ws ++ [.int (s : Int)]))) := ((g1.trans g2).up).set' d2.fl (.inr (.inr rfl))
  have D2 : DrAt T.C_Draw T.C_Turns F2 (upd H2 l (.lst (ws ++ [.int (s : Int)]))) a l t m n (ws ++ [.int (s : Int)]) := by
    obtain ⟨dx2, tv2, fv2, h21, h22, h23⟩ := id d2.ha
    exact ⟨d2.ne, d2.fa, d2.fl, ⟨dx2, tv2, fv2, by rw [upd_ne d2.ne]; exact h21, h22, h23⟩, upd_same⟩
  obtain ⟨dx2, tv2, fv2, h21, h22, h23⟩ := id D2.ha
  have fin : ∀ (p : List Nat × Nat) F3 H3 σ, σ = [some (V.ref a), some (V.int (s : Int))] → Gr (fun b => b = a ∨ b = l) F H F3 H3 → DrAt T.C_Draw T.C_Turns F3 H3 a l t p.1 p.2 (ws ++ [.int (s : Int)]) → IsMap t.many p.1 → p = drStep t (m, n) s →
      tRet (tMeth T.C_Draw "place" (sp_Draw_place T) [] E0 (tVar 0) tNil) { nx := fun x H' => Q V.non H', rt := Q } σ H3 := by
    intro p F3 H3 σ hσ g3 d3 hm3 hp
    subst hσ
    subst hp
    exact x_ret g3.fh (ev_place (ev_var rfl (va _)) d3 hm3) fun v F4 H4 g4 r4 => k v F4 H4 (g3.trans g4.up) (d3.gr g4) r4
  walk_at "n"
  refine x_if (b := !metB m) G2.fh (et_not (et_B (ev_call1 (ev_fldM (ev_var rfl (va _)) h21 T.cl_Draw T.na_Draw_found rfl h23) (by omega)))) (fun hb F3 H3 g3 => ?_) (fun hb F3 H3 g3 => ?_)
  · have hb' : metB m = false := by simpa using hb
    have d3 := D2.gr g3
    obtain ⟨dx3, tv3, fv3, h31, h32, h33⟩ := id d3.ha
    have hmap := t.isMap hs
    walk_at "n"
    refine x_fld (R := rTup rNat) (x := thenM (t.maps.getD s []) m) g3.fh (ev_call2 (ev_ixL (ev_fld (ev_fldM (ev_var rfl (va _)) h31 T.cl_Draw T.na_Draw_turns rfl h32)) (ev_var rfl rfl) (atI_natL (getD_at hs))) (ev_fldM (ev_var rfl (va _)) h31 T.cl_Draw T.na_Draw_found rfl h33) ⟨by rw [hmap.1]; omega, fun x hx => by rw [m1]; exact hmap.2 x hx⟩)
      (ev_var rfl (va _)) h31 T.cl_Draw T.na_Draw_found (by show 4 < 1000; decide) fun v F4 H4 g4 r4 h4 => ?_
    have d4 := d3.gr g4
    have G4 := (G2.trans (g3.trans g4).up).set' (o := .ins T.C_Draw dx3 (putF "found" v [("turns", tv3), ("found", fv3), ("many", .int (n : Int)), ("told", .ref l)])) d4.fa (.inr (.inl rfl))
    walk_at "n"
    refine ⟨.ref a, rfl, a, T.C_Draw, dx3, _, .int (n : Int), rfl, upd_same, T.cl_Draw, T.na_Draw_many, rfl, ?_⟩
    refine ⟨n, 1, rfl, rfl, dx3, _, upd_same, by show 4 < 1000; decide, ?_⟩
    have G5 := G4.set' (o := .ins T.C_Draw dx3 (putF "many" (.int ((n : Int) + 1)) (putF "found" v [("turns", tv3), ("found", fv3), ("many", .int (n : Int)), ("told", .ref l)]))) d4.fa (.inr (.inl rfl))
    refine fin (thenM (t.maps.getD s []) m, n + 1) F4 _ _ rfl G5 ⟨d4.ne, d4.fa, d4.fl, ⟨dx3, tv3, v, ?_, Mn.mono g4.ff h32, r4⟩, ?_⟩ (isMap_then hmap hm) ?_
    · rw [upd_same]
      rfl
    · rw [upd_ne d4.ne.symm, upd_ne d4.ne.symm]
      exact d4.hl
    · unfold drStep
      rw [hb']
      rfl
  · have hb' : metB m = true := by simpa using hb
    walk_at "n"
    refine fin (m, n) F3 _ _ rfl (G2.trans g3.up) (D2.gr g3) hm ?_
    unfold drStep
    rw [hb']
    rfl

abbrev sp_drawn (T : Tx K mg) : Sp := Sp2 (rTurns T.C_Turns) (rLst rNat) (fun t w => (∀ s ∈ w, s < t.maps.length) ∧ w.length ≤ 1000000) (rOpt (rPr rNat rNat)) drawnM
theorem ok_drawn (T : Tx K mg) : FnOk P w K mg base CX0 5 T.a_drawn T.d_drawn ["turns", "signs"] (sp_drawn T) := by
  refine T.F_drawn.ok sc_drawn (fun vs H Q E h => SpLen.len h) (fun cdv A outer s H vs Q E hr h => ?_)
  obtain ⟨F, v, w, t, xs, rfl, e, r1, r2, ⟨p, hz⟩, k⟩ := h
  have t0 := t.h0
  refine ⟨_, (by exact (pss_cons (ps_expr (pe_call (ok_check_signs T) (hr.mono (by decide)) rfl T.g_check_signs T.F_check_signs.kp T.b_check_signs .nil pass0 (pa_cons (pv 0) (pa_cons (pv 1) pa_nil))))
      (pss_cons (ps_set (i := 2) sc_drawn.nd rfl (Or.inl rfl) (pe_make T.mk_Draw (ok_Draw_init T) (hr.mono (by decide)) rfl T.g_Draw T.b_Draw_init .nil pass0 (pa_cons (pv 0) pa_nil)))
      (pss_cons (ps_for PassesOwn.never rfl (klist K (pv 1)) (pg_name (i := 3) sc_drawn.nd rfl (by first | exact Or.inl rfl | exact Or.inr rfl)) (pss_one (ps_expr (pe_meth (pv 2) T.cl_Draw T.m_Draw_elder (ok_Draw_elder T) (hr.mono (by decide)) T.b_Draw_elder .nil pass0 (pa_cons (pv 3) pa_nil)))))
      (pss_one (ps_ret (pe_ifExp (pt_cmpR op_isN1 (pe_meth0 (pv 2) T.cl_Draw T.m_Draw_place (ok_Draw_place T) (hr.mono (by decide)) T.b_Draw_place .nil pass0) pe_non (nomark _)) pe_non (pe_tup (pa_cons (pe_meth0 (pv 2) T.cl_Draw T.m_Draw_place (ok_Draw_place T) (hr.mono (by decide)) T.b_Draw_place .nil pass0) (pa_cons (pe_meth0 (pv 2) T.cl_Draw T.m_Draw_used (ok_Draw_used T) (hr.mono (by decide)) T.b_Draw_used .nil pass0) pa_nil)))))))))), ?_⟩
  walk_at "n"
  refine x_drop e (ev_call2 (ev_var rfl r1) (ev_var rfl r2) p) fun F1 H1 g1 => ?_
  walk_at "n"
  refine ⟨v, rfl, fun a dx nx ndx nex => ⟨F1, a, dx, v, t, rfl, Ex.make g1.fh nx ndx, g1.fh.free nx, upd_same, Mn.mono g1.ff r1, fun l F2 H2 g2 hl d2 => ⟨rfl, ?_⟩⟩⟩
  have G2 : Gr M0 F H F2 H2 := g1.trans (.make g1.fh nx ndx nex g2)
  have na : H a = none := Ex.free g1.hx nx
  have nl : H l = none := by
    refine Ex.free g1.hx ?_
    by_cases z1 : l = a
    · rw [z1]; exact nx
    · by_cases z2 : l = dx
      · rw [z2]; exact ndx
      · rw [upd_ne z1, upd_ne z2] at hl; exact hl
  walk_at "n"
  refine x_forL g2.fh (ev_var rfl (Mn.mono G2.ff r2)) (fun i σ' F' H' => Gr M0 F H F' H' ∧ (∃ y, σ' = [some v, some w, some (.ref a), y]) ∧ DrAt T.C_Draw T.C_Turns F' H' a l t (drRun t (xs.take i)).1 (drRun t (xs.take i)).2 ((xs.take i).map fun s : Nat => V.int (s : Int))) (fun F3 H3 g => ⟨G2.trans g, ⟨none, rfl⟩, d2.gr g⟩) ?_ ?_
  · rintro F3 e3 i x u σ' F' H' hx e4 e5 r ⟨g, ⟨y, rfl⟩, d⟩
    cases (show u = _ from r)
    have hs := p x (mem_of_at hx)
    have hm : IsMap t.many (drRun t (xs.take i)).1 := isMap_run fun s h => p s (List.mem_of_mem_take h)
    obtain ⟨dx1, tv, fv, h1, h2, h3⟩ := id d.ha
    refine ⟨.ref a, rfl, a, dx1, _, rfl, h1, rfl, .int (x : Int), rfl, F', a, l, t, _, _, _, x, rfl, e5, d, hm, hs, ?_, fun z F4 H4 g4 d4 r4 => ?_⟩
    · rw [List.length_map, List.length_take]
      omega
    have e6 : xs.take (i + 1) = xs.take i ++ [x] := by rw [List.take_add_one, hx]; rfl
    have e7 : drRun t (xs.take (i + 1)) = drStep t (drRun t (xs.take i)) x := by
      rw [e6]
      unfold drRun
      rw [List.foldl_append]
      rfl
    refine ⟨F4, e4.trans g4.ff, g4.fh, g.seq0 g4 ?_, ⟨_, rfl⟩, ?_⟩
    · rintro b (rfl | rfl)
      · exact na
      · exact nl
    · rw [e7, e6, List.map_append]
      exact d4
  · rintro σ' F' H' e1 e2 ⟨g, ⟨y, rfl⟩, d⟩
    rw [List.take_length] at d
    have hm : IsMap t.many (drRun t xs).1 := isMap_run p
    have va : ∀ F, rRef F (.ref a) a := fun F => rfl
    have ep := fun F3 H3 (g3 : Gr M0 F' H' F3 H3) => ev_place (E := E0) (σ := [some v, some w, some (.ref a), y]) (ta := tVar 2) (ev_var rfl (va F3)) (d.gr g3) hm
    have ep0 := ep F' H' (.refl e2)
    walk_at "n"
    refine x_ret (x := drawnM t xs) e2 ?_ fun v' F6 H6 g6 r6 => k v' F6 H6 (g.trans g6) r6
    refine Ev.is (ev_if (x1 := none) (x2 := drawnM t xs) (et_test (ev_isN ep0)) (fun _ => ev_noneO) (fun hb => ?_)) ?_
    · unfold drawnM
      cases q : plc (drRun t xs).1 with
      | none => rw [q] at hb; cases hb
      | some z =>
        rw [q] at ep0
        exact ev_someO (R := rPr rNat rNat) (ev_pr (R := rNat) (S := rNat) (x := z) (y := (drRun t xs).2) ep0 (ev_used (ev_var rfl (va _)) d))
    · unfold drawnM
      cases q : plc (drRun t xs).1 with
      | none => rfl
      | some z => rfl
abbrev sp_read_once (T : Tx K mg) : Sp := Sp3 (rTurns T.C_Turns) rNat (rLst rNat) (fun t n w => (∀ s ∈ w, s < t.maps.length) ∧ w.length ≤ 1000000 ∧ 1 ≤ n ∧ n ≤ 1000) (rOpt (rPr rNat rNat)) readOnceM
theorem cast_div (a b : Nat) : ((a : Int) / (b : Int)) = ((a / b : Nat) : Int) := (Int.natCast_ediv a b).symm
theorem ok_read_once (T : Tx K mg) : FnOk P w K mg base CX0 5 T.a_read_once T.d_read_once ["turns", "long", "word"] (sp_read_once T) := by
  refine T.F_read_once.ok sc_read_once (fun vs H Q E h => SpLen.len h) (fun cdv A outer s H vs Q E hr h => ?_)
  obtain ⟨F, v, u, w, t, n, xs, rfl, e, r1, r2, r3, ⟨p, hz, n0, n1⟩, k⟩ := h
  have t0 := t.h0
  have t1 := t.h1
  cases (show u = _ from r2)
  refine ⟨_, (by exact (pss_cons (ps_expr (pe_call (ok_check_signs T) (hr.mono (by decide)) rfl T.g_check_signs T.F_check_signs.kp T.b_check_signs .nil pass0 (pa_cons (pv 0) (pa_cons (pv 2) pa_nil))))
      (pss_cons (ps_set (i := 3) sc_read_once.nd rfl (Or.inl rfl) pe_non)
      (pss_cons (ps_for PassesOwn.never rfl (pi_range1 rfl T.z_range (pa_cons (pe_op op_fdiv (pe_callB (r := rLenS K) call_len_seq (by rfl) T.z_len PySem.boot_len (pa_cons (pv 2) pa_nil)) (pv 1)) pa_nil)) (pg_name (i := 4) sc_read_once.nd rfl (by first | exact Or.inl rfl | exact Or.inr rfl)) (pss_cons (ps_set (i := 5) sc_read_once.nd rfl (Or.inl rfl) (pe_call (ok_map_of T) (hr.mono (by decide)) rfl T.g_map_of T.F_map_of.kp T.b_map_of .nil pass0 (pa_cons (pv 0) (pa_cons (pe_slice (r := rSlL K) sl_list (pv 2) (po_some (pe_op op_mul (pv 4) (pv 1))) (po_some (pe_op op_mul (pe_op op_add (pv 4) pe_int) (pv 1)))) pa_nil))))
      (pss_one (ps_if (pt_cmpR op_isN1 (pv 3) pe_non (nomark _)) (pss_one (ps_set (i := 3) sc_read_once.nd rfl (Or.inl rfl) (pe_ifExp (pt_val (pe_call (ok_has_met T) (hr.mono (by decide)) rfl T.g_has_met T.F_has_met.kp T.b_has_met .nil pass0 (pa_cons (pv 5) pa_nil))) (pe_ix (r := rIxT K) ix_tup (pv 5) pe_int (fun _ _ => rfl)) pe_non))) (pss_one (ps_if (pt_val (pe_call (ok_has_met T) (hr.mono (by decide)) rfl T.g_has_met T.F_has_met.kp T.b_has_met .nil pass0 (pa_cons (pv 5) pa_nil))) (pss_one (ps_ret (pe_tup (pa_cons (pv 3) (pa_cons (pe_op op_add (pv 4) pe_int) pa_nil))))) (pss_one (ps_set (i := 3) sc_read_once.nd rfl (Or.inl rfl) (pe_ix (r := rIxT K) ix_tup (pv 5) (pv 3) (fun _ _ => rfl))))))))))
      (pss_one (ps_ret pe_non)))))), ?_⟩
  walk_at "n"
  refine x_drop e (ev_call2 (ev_var rfl r1) (ev_var rfl r3) p) fun F1 H1 g1 => ?_
  walk_at "n"
  refine x_set g1.fh (ev_noneO (R := rNat)) fun v2 F2 H2 g2 r4 => ?_
  walk_at "n"
  refine x_forR (n := xs.length / n) g2.fh (Ev.is (ev_fdiv (ev_lenL (ev_var rfl (Mn.mono (g1.ff.trans g2.ff) r3))) (ev_var rfl rfl) ⟨by omega, by omega⟩) (cast_div _ _)) (Nat.le_trans (Nat.div_le_self _ _) (by omega))
    (fun i σ' F' H' => Gr M0 F H F' H' ∧ ∃ sv st y y2, σ' = [some v, some (.int (n : Int)), some w, some sv, y, y2] ∧ rOpt rNat F' sv st ∧ (∀ s, st = some s → s < t.many) ∧ readOnceM t n xs = roLoop t n xs (xs.length / n - i) i st)
    (fun F3 H3 g => ⟨(g1.trans g2).trans g, v2, none, none, none, rfl, Mn.mono g.ff r4, (fun s h => nomatch h), rfl⟩) ?_ ?_
  · rintro F3 e3 i σ' F' H' hi e4 e5 ⟨g, sv, st, y, y2, rfl, rs, hs, hro⟩
    have hlen : xs.length / n ≤ xs.length := Nat.div_le_self _ _
    have hw : ∀ s ∈ (xs.drop (i * n)).take n, s < t.maps.length := fun s h => p s (List.mem_of_mem_drop (List.mem_of_mem_take h))
    have hm : IsMap t.many (mapW t ((xs.drop (i * n)).take n)) := isMap_mapW hw
    have m1 := hm.1
    walk_at "n"
    refine x_set (R := rTup rNat) (x := mapW t ((xs.drop (i * n)).take n)) e5 (ev_call2 (y := (xs.drop (i * n)).take n) (ev_var rfl (Mn.mono g.ff r1)) (Ev.is (ev_slL (lo := some ((i * n : Nat) : Int)) (hi := some (((i + 1) * n : Nat) : Int)) (ev_var rfl (Mn.mono g.ff r3)) (eo_some (Ev.is (ev_mul (ev_var rfl (show rInt _ _ (i : Int) from rfl)) (ev_var rfl (show rInt _ _ (n : Int) from rfl)) (.inl ⟨by omega, by omega⟩)) (by rw [Int.natCast_mul])))
        (eo_some (Ev.is (ev_mul (ev_add (ev_var rfl (show rInt _ _ (i : Int) from rfl)) ev_int) (ev_var rfl (show rInt _ _ (n : Int) from rfl)) (.inl ⟨by omega, by omega⟩)) (by rw [Int.natCast_mul, Int.natCast_add]; rfl)))) ?_) hw) fun vo F4 H4 g4 ro => ?_
    · rw [cut_mid (Nat.mul_le_mul_right _ (Nat.le_succ i)), Nat.succ_mul, Nat.add_sub_cancel_left]
    have hsub : xs.length / n - i = (xs.length / n - (i + 1)) + 1 := by omega
    rw [hsub] at hro
    walk_at "n"
    refine x_if g4.fh (et_test (ev_isN (ev_var rfl (Mn.mono g4.ff rs)))) (fun hb F5 H5 g5 => ?_) (fun hb F5 H5 g5 => ?_)
    · cases st with
      | some s => cases hb
      | none =>
        have ro5 := Mn.mono g5.ff ro
        refine x_set (R := rOpt rNat) (x := plc (mapW t ((xs.drop (i * n)).take n))) g5.fh (ev_if (et_B (ev_call1 (ev_var rfl ro5) (by omega))) (fun _ => ev_someO (R := rNat) (ev_ixT (ev_var rfl ro5) ev_int (at0 (by omega)))) (fun _ => ev_noneO)) fun v6 F6 H6 g6 r6 => ?_
        refine ⟨F6, e4.trans (g4.ff.trans (g5.ff.trans g6.ff)), g6.fh, g.trans (g4.trans (g5.trans g6)), v6, _, _, _, rfl, r6, fun s h => ?_, hro⟩
        unfold plc at h
        split at h
        · cases h; exact headD_lt hm t0
        · cases h
    · cases st with
      | none => cases hb
      | some s =>
        have ro5 := Mn.mono g5.ff ro
        have rs5 : rNat F5 sv s := Mn.mono (R := rNat) (g4.ff.trans g5.ff) rs
        have hsn := hs s rfl
        refine x_if g5.fh (et_B (ev_call1 (ev_var rfl ro5) (by omega))) (fun hb F6 H6 g6 => ?_) (fun hb F6 H6 g6 => ?_)
        · refine x_ret (R := rOpt (rPr rNat rNat)) (x := readOnceM t n xs) g6.fh ?_ fun v7 F7 H7 g7 r7 => k v7 F7 H7 (g.trans (g4.trans (g5.trans (g6.trans g7)))) r7
          rw [hro]
          show Ev _ _ _ _ _ (if metB (mapW t ((xs.drop (i * n)).take n)) = true then some (s, i + 1) else _)
          rw [if_pos hb]
          exact ev_someO (R := rPr rNat rNat) (ev_pr (R := rNat) (S := rNat) (x := s) (y := i + 1) (ev_var rfl (Mn.mono g6.ff rs5)) (Ev.toNat (Ev.is (ev_add (ev_var rfl (show rInt _ _ (i : Int) from rfl)) ev_int) (by rw [Int.natCast_add]; rfl))))
        · refine x_set (R := rNat) (x := (mapW t ((xs.drop (i * n)).take n)).getD s 0) g6.fh (ev_ixT (ev_var rfl (Mn.mono g6.ff ro5)) (Ev.nat (ev_var rfl (Mn.mono g6.ff rs5))) (atI_natL (getD_at (by omega)))) fun v7 F7 H7 g7 r7 => ?_
          refine ⟨F7, e4.trans (g4.ff.trans (g5.ff.trans (g6.ff.trans g7.ff))), g7.fh, g.trans (g4.trans (g5.trans (g6.trans g7))), v7, some ((mapW t ((xs.drop (i * n)).take n)).getD s 0), _, _, rfl, r7, fun z h => ?_, ?_⟩
          · cases h
            have hl : s < (mapW t ((xs.drop (i * n)).take n)).length := by omega
            rw [List.getD_eq_getElem?_getD, List.getElem?_eq_getElem hl]
            exact hm.2 _ (List.getElem_mem hl)
          · rw [hro]
            show (if metB (mapW t ((xs.drop (i * n)).take n)) = true then some (s, i + 1) else _) = _
            rw [if_neg (by rw [hb]; exact Bool.false_ne_true)]
  · rintro σ' F' H' e1 e2 ⟨g, sv, st, y, y2, rfl, rs, hs, hro⟩
    rw [Nat.sub_self] at hro
    walk_at "n"
    refine x_ret (R := rOpt (rPr rNat rNat)) (x := readOnceM t n xs) e2 ?_ fun v7 F7 H7 g7 r7 => k v7 F7 H7 (g.trans g7) r7
    rw [hro]
    show Ev _ _ _ _ _ none
    exact ev_noneO

abbrev sp__law_well (T : Tx K mg) : Sp := fun vs H Q _ => ∃ F i, vs = [.int i] ∧ Ex F H ∧ ∀ a H', Gr M0 F H F H' → H a = none → F a = none → Src H' a 1099511627776 → Q (.ref a) H'
instance {T : Tx K mg} : SpLen (sp__law_well T) 1 := ⟨fun ⟨_, _, h, _⟩ => by rw [h]; rfl⟩
theorem ok__law_well (T : Tx K mg) : FnOk P w K mg base CX0 1 T.a__law_well T.d__law_well ["_law_cell"] (sp__law_well T) := by
  refine T.F__law_well.ok sc__law_well (fun vs H Q E h => SpLen.len h) (fun cdv A outer s H vs Q E hr h => ?_)
  obtain ⟨F, i, rfl, e, k⟩ := h
  refine ⟨_, (by exact (pss_one (ps_ret (pe_lst (pa_cons (pe_op op_mul (pv 0) (pe_callTy call_int1 (by rfl) T.z_int (by decide +kernel) (pa_cons (pe_cmpR op_ge (pv 0) (pe_op op_pow pe_int pe_int) (nomark _)) pa_nil))) (pa_cons (pe_op op_mod (pv 0) pe_int) (pa_cons pe_int pa_nil))))))), ?_⟩
  have mk : ∀ j : Int, 0 ≤ j → tRet (fun _ H' Q' => (3 : Nat) ≤ sizeLine ∧ ∀ p, H' p = none → Q' (.ref p) (upd H' p (.lst [.int j, .int (i % 2147483647), .int 0]))) { nx := fun x H' => Q V.non H', rt := Q } (L2.start N__law_well [.int i]) H := fun j hj => by
    refine ⟨by decide, fun p hp => k p _ (.loc e hp) hp (e.free hp) ⟨j, i % 2147483647, 0, upd_same, hj, by omega, by omega, by omega, by omega⟩⟩
  by_cases h : (10 : Int) ^ (18 : Int).toNat ≤ i
  · have h0 : (0 : Int) ≤ i * 1 := by
      have : (0 : Int) ≤ (10 : Int) ^ (18 : Int).toNat := by decide
      omega
    have := mk (i * 1) h0
    refine ⟨.int i, rfl, .int i, rfl, 10, 18, rfl, rfl, ⟨by decide, by decide, by decide⟩, i, _, rfl, rfl, .inr ⟨true, by show [V.bl (decide ((10 : Int) ^ (18 : Int).toNat ≤ i))] = _; rw [decide_eq_true h], ?_⟩⟩
    refine ⟨i, 1, rfl, rfl, .inr ⟨by omega, by omega⟩, ?_⟩
    exact ⟨.int i, rfl, i, 2147483647, rfl, rfl, (by show (0 : Int) < 2147483647; decide), this⟩
  · have := mk (i * 0) (by omega)
    refine ⟨.int i, rfl, .int i, rfl, 10, 18, rfl, rfl, ⟨by decide, by decide, by decide⟩, i, _, rfl, rfl, .inr ⟨false, by show [V.bl (decide ((10 : Int) ^ (18 : Int).toNat ≤ i))] = _; rw [decide_eq_false h], ?_⟩⟩
    refine ⟨i, 0, rfl, rfl, .inr ⟨by omega, by omega⟩, ?_⟩
    exact ⟨.int i, rfl, i, 2147483647, rfl, rfl, (by show (0 : Int) < 2147483647; decide), this⟩
abbrev sp__law_draw (T : Tx K mg) : Sp := SpS1 1 rNat (fun m => 0 < m ∧ m ≤ 1000000000) rNat (fun m d => d < m)
theorem nat_of_mod {i : Int} {m : Nat} (h : 0 < m) : ∃ d : Nat, i % (m : Int) = (d : Int) ∧ d < m := ⟨(i % (m : Int)).toNat, by have := Int.emod_nonneg i (show (m : Int) ≠ 0 by omega); omega, by have := Int.emod_lt_of_pos i (show (0 : Int) < m by omega); have := Int.emod_nonneg i (show (m : Int) ≠ 0 by omega); omega⟩
theorem prime_at (k : Int) : ∃ p : Int, atI [2147483647, 2147483629, 2147483587, 2147483579, 2147483563, 2147483549, (2147483543 : Int)] (k % 7) = some p ∧ 0 < p ∧ p < 2147483648 := by
  have h0 := Int.emod_nonneg k (show (7 : Int) ≠ 0 by decide)
  have h1 := Int.emod_lt_of_pos k (show (0 : Int) < 7 by decide)
  obtain ⟨j, hj⟩ : ∃ j : Nat, k % 7 = (j : Int) := ⟨(k % 7).toNat, by omega⟩
  rw [hj]
  have : j < 7 := by omega
  match j, this with
  | 0, _ => exact ⟨_, rfl, by decide, by decide⟩
  | 1, _ => exact ⟨_, rfl, by decide, by decide⟩
  | 2, _ => exact ⟨_, rfl, by decide, by decide⟩
  | 3, _ => exact ⟨_, rfl, by decide, by decide⟩
  | 4, _ => exact ⟨_, rfl, by decide, by decide⟩
  | 5, _ => exact ⟨_, rfl, by decide, by decide⟩
  | 6, _ => exact ⟨_, rfl, by decide, by decide⟩
theorem ok__law_draw (T : Tx K mg) : FnOk P w K mg base CX0 1 T.a__law_draw T.d__law_draw ["_law_well_here", "_law_many"] (sp__law_draw T) := by
  refine T.F__law_draw.ok sc__law_draw (fun vs H Q E h => SpLen.len h) (fun cdv A outer s H vs Q E hr h => ?_)
  obtain ⟨F, a, N, v, m, rfl, e, fa, ⟨n, c, kk, hs, n0, c0, c1, k0, kb⟩, r, ⟨m0, m1⟩, k⟩ := h
  cases (show v = _ from r)
  refine ⟨_, (by exact (pss_cons (ps_if (pt_cmpR op_gt (pe_ix (r := rIxL K) ix_list (pv 0) pe_int (fun _ _ => rfl)) pe_int (nomark _)) (pss_cons (ps_set (i := 2) sc__law_draw.nd rfl (Or.inl rfl) (pe_op op_mod (pe_ix (r := rIxL K) ix_list (pv 0) pe_int (fun _ _ => rfl)) (pv 1)))
      (pss_cons (ps_asg (pe_op op_fdiv (pe_ix (r := rIxL K) ix_list (pv 0) pe_int (fun _ _ => rfl)) (pv 1)) (pg_sub (pv 0) pe_int set_list))
      (pss_one (ps_ret (pv 2))))) pss_nil)
      (pss_cons (ps_asg (pe_op op_add (pe_ix (r := rIxL K) ix_list (pv 0) pe_int (fun _ _ => rfl)) pe_int) (pg_sub (pv 0) pe_int set_list))
      (pss_cons (ps_set (i := 3) sc__law_draw.nd rfl (Or.inl rfl) (pe_ix (r := rIxL K) ix_list (pe_lst (pa_cons pe_int (pa_cons pe_int (pa_cons pe_int (pa_cons pe_int (pa_cons pe_int (pa_cons pe_int (pa_cons pe_int pa_nil)))))))) (pe_op op_mod (pe_ix (r := rIxL K) ix_list (pv 0) pe_int (fun _ _ => rfl)) pe_int) (fun _ _ => rfl)))
      (pss_cons (ps_set (i := 4) sc__law_draw.nd rfl (Or.inl rfl) (pe_op op_mod (pe_op op_pow (pe_op op_add (pe_op op_add (pe_ix (r := rIxL K) ix_list (pv 0) pe_int (fun _ _ => rfl)) (pe_op op_mul pe_int (pe_ix (r := rIxL K) ix_list (pv 0) pe_int (fun _ _ => rfl)))) pe_int) pe_int) (pv 3)))
      (pss_cons (ps_set (i := 4) sc__law_draw.nd rfl (Or.inl rfl) (pe_op op_mod (pe_op op_mul (pe_op op_add (pv 4) (pe_ix (r := rIxL K) ix_list (pv 0) pe_int (fun _ _ => rfl))) (pe_op op_add (pe_op op_fdiv (pv 4) pe_int) pe_int)) (pv 3)))
      (pss_one (ps_ret (pe_op op_mod (pe_op op_fdiv (pv 4) pe_int) (pv 1)))))))))), ?_⟩
  have va : ∀ F, rRef F (.ref a) a := fun F => rfl
  have ri : ∀ F (i : Int), rInt F (.int i) i := fun F i => rfl
  walk_at "n"
  refine x_if e (et_test (ev_gt (ev_ixM (ev_var rfl (va _)) ev_int hs rfl (ri _ n)) ev_int)) (fun hb F1 H1 g1 => ?_) (fun hb F1 H1 g1 => ?_)
  · have hs1 := g1.hx _ _ hs
    have fa1 := g1.nn hs fa
    obtain ⟨d, hd, hdm⟩ := nat_of_mod (i := n) m0
    walk_at "n"
    refine x_set g1.fh (ev_mod (ev_ixM (ev_var rfl (va _)) ev_int hs1 rfl (ri _ n)) (ev_var rfl (ri _ m)) (by omega)) fun v2 F2 H2 g2 r2 => ?_
    cases (show v2 = _ from r2)
    walk_at "n"
    refine x_setI (n := 0) g2.fh (ev_fdiv (ev_ixM (ev_var rfl (va _)) ev_int (g2.hx _ _ hs1) rfl (ri _ n)) (ev_var rfl (ri _ m)) ⟨by omega, by omega⟩) (ev_var rfl (va _)) ev_int (g2.hx _ _ hs1) (by show 0 < 3; decide) fun v3 F3 H3 g3 r3 hl3 => ?_
    cases (show v3 = _ from r3)
    have fa3 := g3.nn (g2.hx _ _ hs1) (g2.nn hs1 fa1)
    have g4 : Gr (El.M1 a) F H F3 _ := ((g1.trans (g2.trans g3)).up).set' (o := .lst [.int (n / (m : Int)), .int c, .int kk]) fa3 (.inr rfl)
    refine x_ret g4.fh (ev_var rfl (ri _ (n % (m : Int)))) fun v5 F5 H5 g5 r5 => ?_
    refine k v5 d F5 H5 (g4.trans g5.up) (g5.nn upd_same fa3) ?_ hdm (by rw [hd] at r5; exact r5)
    exact ⟨n / m, c, kk, g5.hx _ _ upd_same, Int.ediv_nonneg n0 (by omega), c0, c1, k0, by omega⟩
  · have hs1 := g1.hx _ _ hs
    have fa1 := g1.nn hs fa
    walk_at "n"
    refine x_setI (n := 2) g1.fh (ev_add (ev_ixM (ev_var rfl (va _)) ev_int hs1 rfl (ri _ kk)) ev_int) (ev_var rfl (va _)) ev_int hs1 (by show 2 < 3; decide) fun v3 F3 H3 g3 r3 hl3 => ?_
    cases (show v3 = _ from r3)
    have fa3 := g3.nn hs1 fa1
    have g4 : Gr (El.M1 a) F H F3 _ := ((g1.trans g3).up).set' (o := .lst [.int n, .int c, .int (kk + 1)]) fa3 (.inr rfl)
    obtain ⟨p, hp, p0, p1⟩ := prime_at (kk + 1)
    walk_at "n"
    refine x_set (R := rInt) (x := p) g4.fh (ev_ixL (ev_lst (R := rInt) (el_cons ev_int (el_cons ev_int (el_cons ev_int (el_cons ev_int (el_cons ev_int (el_cons ev_int (el_cons ev_int el_nil))))))) (by show 7 ≤ sizeLine; decide)) (ev_mod (ev_ixM (ev_var rfl (va _)) ev_int upd_same rfl (ri _ (kk + 1))) ev_int (by decide)) hp) fun v5 F5 H5 g5 r5 => ?_
    cases (show v5 = _ from r5)
    have hs5 := g5.hx _ _ (upd_same (H := H3) (a := a) (o := .lst [.int n, .int c, .int (kk + 1)]))
    walk_at "n"
    refine x_set g5.fh (ev_mod (ev_pow (ev_add (ev_add (ev_ixM (ev_var rfl (va _)) ev_int hs5 rfl (ri _ c)) (ev_mul ev_int (ev_ixM (ev_var rfl (va _)) ev_int hs5 rfl (ri _ (kk + 1))) (.inl ⟨by decide, by decide⟩))) ev_int) ev_int ⟨by decide, by decide, by omega⟩) (ev_var rfl (ri _ p)) p0) fun v6 F6 H6 g6 r6 => ?_
    generalize hx : (c + 7919 * (kk + 1) + 1) ^ (5 : Int).toNat % p = x at r6
    have x0 : 0 ≤ x := by rw [← hx]; exact Int.emod_nonneg _ (by omega)
    have x1 : x < p := by rw [← hx]; exact Int.emod_lt_of_pos _ p0
    cases (show v6 = _ from r6)
    have hs6 := g6.hx _ _ hs5
    walk_at "n"
    refine x_set g6.fh (ev_mod (ev_mul (ev_add (ev_var rfl (ri _ x)) (ev_ixM (ev_var rfl (va _)) ev_int hs6 rfl (ri _ (kk + 1)))) (ev_add (ev_fdiv (ev_var rfl (ri _ x)) ev_int ⟨by decide, by decide⟩) ev_int) (.inr ⟨by omega, by omega⟩)) (ev_var rfl (ri _ p)) p0) fun v7 F7 H7 g7 r7 => ?_
    generalize hy : (x + (kk + 1)) * (x / 1009 + 69621) % p = y at r7
    cases (show v7 = _ from r7)
    obtain ⟨d, hd, hdm⟩ := nat_of_mod (i := y / 7) m0
    walk_at "n"
    refine x_ret g7.fh (ev_mod (ev_fdiv (ev_var rfl (ri _ y)) ev_int ⟨by decide, by decide⟩) (ev_var rfl (ri _ m)) (by omega)) fun v8 F8 H8 g8 r8 => ?_
    have G := g5.trans (g6.trans (g7.trans g8))
    refine k v8 d F8 H8 (g4.trans G.up) (G.nn upd_same fa3) ?_ hdm (by rw [hd] at r8; exact r8)
    exact ⟨n, c, kk + 1, G.hx _ _ upd_same, n0, c0, c1, by omega, by omega⟩

abbrev sp__law_one (T : Tx K mg) : Sp := SpS1 1 (rLst rNat) (fun xs => 1 ≤ xs.length ∧ xs.length ≤ 100000) rNat (fun xs x => x ∈ xs)
theorem atI_lt {α : Type} {xs : List α} {d : Nat} (h : d < xs.length) : ∃ x, atI xs (d : Int) = some x := ⟨xs[d], atI_natL (List.getElem?_eq_getElem h)⟩
theorem atI_mem {α : Type} {xs : List α} {i : Int} {x : α} (h : atI xs i = some x) : x ∈ xs := by
  unfold atI at h
  cases q : ixN xs.length i with
  | none => rw [q] at h; cases h
  | some j => rw [q] at h; exact List.mem_of_getElem? h
theorem ok__law_one (T : Tx K mg) : FnOk P w K mg base CX0 2 T.a__law_one T.d__law_one ["_law_well_here", "_law_some"] (sp__law_one T) := by
  refine T.F__law_one.ok sc__law_one (fun vs H Q E h => SpLen.len h) (fun cdv A outer s H vs Q E hr h => ?_)
  obtain ⟨F, a, N, v, xs, rfl, e, fa, s, r, ⟨p1, p2⟩, k⟩ := h
  refine ⟨_, (by exact (pss_one (ps_ret (pe_ix (r := rIxL K) ix_list (pv 1) (pe_call (ok__law_draw T) (hr.mono (by decide)) rfl T.g__law_draw T.F__law_draw.kp T.b__law_draw .nil pass0 (pa_cons (pv 0) (pa_cons (pe_callB (r := rLenS K) call_len_seq (by rfl) T.z_len PySem.boot_len (pa_cons (pv 1) pa_nil)) pa_nil))) (fun _ _ => rfl))))), ?_⟩
  refine x_retS (es_ixL (xs := xs) (P2 := fun i => ∃ d : Nat, i = (d : Int) ∧ d < xs.length) (fun F1 H1 g fa1 => ev_var rfl (Mn.mono g.ff r)) (EvS.mono (EvS.nat (es_call1 (P1 := fun n => n = xs.length) rfl (es_pure (R := rNat) (x := xs.length) fun F1 H1 g fa1 => ev_lenL (ev_var rfl (Mn.mono g.ff r))) ?_)) ?_ (Nat.le_refl _)) ?_) e fa s (by omega) fun v' x F' H' g fa' s' p r' => ?_
  · rintro x rfl
    exact ⟨by omega, by omega⟩
  · rintro x ⟨n, rfl, m, rfl, h⟩
    exact ⟨n, rfl, h⟩
  · rintro i ⟨d, rfl, h⟩
    exact atI_lt h
  · obtain ⟨i, _, h⟩ := p
    exact k v' x F' H' g fa' (s'.le (by omega)) (atI_mem h) r'

abbrev sp__law_map (T : Tx K mg) : Sp := SpS1 40 rNat (fun n => 1 ≤ n ∧ n ≤ 32) (rTup rNat) (fun n m => IsMap n m)
theorem isMap_of_all {n : Nat} {l : List Nat} (h : l.length = n ∧ ∀ (i x : Nat), l[i]? = some x → x < n) : IsMap n l := ⟨h.1, fun x hx => by
  obtain ⟨i, hi⟩ := List.mem_iff_getElem?.mp hx
  exact h.2 i x hi⟩
theorem ok__law_map (T : Tx K mg) : FnOk P w K mg base CX0 3 T.a__law_map T.d__law_map ["_law_well_here", "_law_many"] (sp__law_map T) := by
  refine T.F__law_map.ok sc__law_map (fun vs H Q E h => SpLen.len h) (fun cdv A outer s H vs Q E hr h => ?_)
  obtain ⟨F, a, N, v, n, rfl, e, fa, s, r, ⟨n0, n1⟩, k⟩ := h
  cases (show v = _ from r)
  refine ⟨_, (by exact (pss_cons (ps_set (i := 2) sc__law_map.nd rfl (Or.inl rfl) (pe_call (ok__law_draw T) (hr.mono (by decide)) rfl T.g__law_draw T.F__law_draw.kp T.b__law_draw .nil pass0 (pa_cons (pv 0) (pa_cons pe_int pa_nil))))
      (pss_cons (ps_set (i := 3) sc__law_map.nd rfl (Or.inr rfl) (pe_call (ok__law_draw T) (hr.mono (by decide)) rfl T.g__law_draw T.F__law_draw.kp T.b__law_draw .nil pass0 (pa_cons (pv 0) (pa_cons (pv 1) pa_nil))))
      (pss_cons (ps_if (pt_cmpR op_eq (pv 2) pe_int (nomark _)) (pss_one (ps_ret (pe_callTy (r := rTupS K) call_tuple_of (by rfl) T.z_tuple (by decide +kernel) (pa_cons (pe_lc (own := [("_law_place", 4)]) (g := gName 4) (tt := tYes) rfl sc__law_map.nd (pi_range1 rfl T.z_range (pa_cons (pv 1) pa_nil)) (blkOk_by (own := [("_law_place", 4)]) (N := N__law_map) (sc := defScope s__law_map) (by decide +kernel)) (fun _ _ _ _ _ => (pg_name (i := 4) sc__law_map.nd rfl (by first | exact Or.inl rfl | exact Or.inr rfl))) (fun _ _ _ _ _ => pts_nil) (fun _ _ _ _ _ => (pe_op op_mod (pe_op op_add (pv 4) (pv 3)) (pv 1)))) pa_nil)))) pss_nil)
      (pss_cons (ps_if (pt_cmpR op_eq (pv 2) pe_int (nomark _)) (pss_one (ps_ret (pe_callTy (r := rTupS K) call_tuple_of (by rfl) T.z_tuple (by decide +kernel) (pa_cons (pe_lc (own := [("_law_place", 4)]) (g := gName 4) (tt := tYes) rfl sc__law_map.nd (pi_range1 rfl T.z_range (pa_cons (pv 1) pa_nil)) (blkOk_by (own := [("_law_place", 4)]) (N := N__law_map) (sc := defScope s__law_map) (by decide +kernel)) (fun _ _ _ _ _ => (pg_name (i := 4) sc__law_map.nd rfl (by first | exact Or.inl rfl | exact Or.inr rfl))) (fun _ _ _ _ _ => pts_nil) (fun _ _ _ _ _ => (pe_call (ok__law_one T) (hr.mono (by decide)) rfl T.g__law_one T.F__law_one.kp T.b__law_one .nil pass0 (pa_cons (pv 0) (pa_cons (pe_lst (pa_cons (pv 4) (pa_cons (pv 4) (pa_cons (pv 3) pa_nil)))) pa_nil))))) pa_nil)))) pss_nil)
      (pss_cons (ps_if (PW.pt (pw_and (pt_cmpR op_eq (pv 2) pe_int (nomark _)) (pw_and1 (pt_cmpR op_eq (pe_call (ok__law_draw T) (hr.mono (by decide)) rfl T.g__law_draw T.F__law_draw.kp T.b__law_draw .nil pass0 (pa_cons (pv 0) (pa_cons pe_int pa_nil))) pe_int (nomark _))))) (pss_one (ps_ret (pe_callTy (r := rTupS K) call_tuple_of (by rfl) T.z_tuple (by decide +kernel) (pa_cons (pe_lc (own := [("_law_place", 4)]) (g := gName 4) (tt := tYes) rfl sc__law_map.nd (pi_range1 rfl T.z_range (pa_cons (pv 1) pa_nil)) (blkOk_by (own := [("_law_place", 4)]) (N := N__law_map) (sc := defScope s__law_map) (by decide +kernel)) (fun _ _ _ _ _ => (pg_name (i := 4) sc__law_map.nd rfl (by first | exact Or.inl rfl | exact Or.inr rfl))) (fun _ _ _ _ _ => pts_nil) (fun _ _ _ _ _ => (pv 3))) pa_nil)))) pss_nil)
      (pss_one (ps_ret (pe_callTy (r := rTupS K) call_tuple_of (by rfl) T.z_tuple (by decide +kernel) (pa_cons (pe_lc (own := [("_law_place", 4)]) (g := gName 4) (tt := tYes) rfl sc__law_map.nd (pi_range1 rfl T.z_range (pa_cons (pv 1) pa_nil)) (blkOk_by (own := [("_law_place", 4)]) (N := N__law_map) (sc := defScope s__law_map) (by decide +kernel)) (fun _ _ _ _ _ => (pg_name (i := 4) sc__law_map.nd rfl (by first | exact Or.inl rfl | exact Or.inr rfl))) (fun _ _ _ _ _ => pts_nil) (fun _ _ _ _ _ => (pe_call (ok__law_draw T) (hr.mono (by decide)) rfl T.g__law_draw T.F__law_draw.kp T.b__law_draw .nil pass0 (pa_cons (pv 0) (pa_cons (pv 1) pa_nil))))) pa_nil)))))))))), ?_⟩
  have ri : ∀ F (i : Int), rInt F (.int i) i := fun F i => rfl
  have rn : ∀ F (i : Nat), rNat F (.int (i : Int)) i := fun F i => rfl
  walk_at "n"
  refine x_setS (es_callP rfl (fun _ _ _ _ => ev_lit (n := 5)) ⟨by omega, by omega⟩) e fa s (by omega) fun v1 w1 F1 H1 g1 fa1 s1 p1 r1 => ?_
  cases (show v1 = _ from r1)
  walk_at "n"
  refine x_setS (es_callP rfl (fun F _ _ _ => ev_var rfl (rn F n)) ⟨by omega, by omega⟩) g1.fh fa1 s1 (by omega) fun v2 w2 F2 H2 g2 fa2 s2 p2 r2 => ?_
  cases (show v2 = _ from r2)
  have g12 := g1.trans g2
  walk_at "n"
  refine x_ifS (a := a) (ets_pure fun F H g _ => et_test (ev_eqI (ev_var rfl (ri _ w1)) ev_int)) g2.fh fa2 s2 (by omega) (fun _ F3 H3 g3 fa3 s3 => ?_) (fun _ F3 H3 g3 fa3 s3 => ?_)
  · refine x_retS (a := a) (es_pure (R := rTup rNat) fun F H g _ => ev_tupL (ev_lcRm (fun p => (p + w2) % n) (ev_var rfl (ri _ n)) (by omega) (fun v => rfl) fun i F H hi g => Ev.toNat (Ev.is (ev_mod (ev_add (ev_var rfl (ri _ i)) (ev_var rfl (ri _ w2))) (ev_var rfl (ri _ n)) (by omega)) (by rw [Int.natCast_emod, Int.natCast_add])))) g3.fh fa3 s3 (by omega) fun v4 w4 F4 H4 g4 fa4 s4 p4 r4 => ?_
    refine k v4 w4 F4 H4 (g12.trans (g3.trans g4)) fa4 (s4.le (by omega)) ?_ r4
    rw [p4]
    refine ⟨by rw [List.length_map, List.length_range], fun x hx => ?_⟩
    obtain ⟨p, hp, rfl⟩ := List.mem_map.mp hx
    exact Nat.mod_lt _ (by omega)
  walk_at "n"
  refine x_ifS (a := a) (ets_pure fun F H g _ => et_test (ev_eqI (ev_var rfl (ri _ w1)) ev_int)) g3.fh fa3 s3 (by omega) (fun _ F4 H4 g4 fa4 s4 => ?_) (fun _ F4 H4 g4 fa4 s4 => ?_)
  · refine x_retS (R := rTup rNat) (es_tupL (es_lcRP (n := n) (B := 32) (c2 := 1) (P2 := fun _ x => x < n) (fun F H _ _ => ev_var rfl (ri _ n)) n1 (by omega) (fun v => rfl) fun i hi F H g _ => ?_)) g4.fh fa4 s4 (by omega) fun v5 w5 F5 H5 g5 fa5 s5 p5 r5 => k v5 w5 F5 H5 (g12.trans (g3.trans (g4.trans g5))) fa5 (s5.le (by omega)) (isMap_of_all p5) r5
    refine (es_callP (x := [i, i, w2]) rfl (fun F H _ _ => ev_lst (R := rNat) (el_cons (ev_var rfl (rn _ i)) (el_cons (ev_var rfl (rn _ i)) (el_cons (ev_var rfl (rn _ w2)) el_nil))) (by show 3 ≤ sizeLine; decide)) ⟨by show 1 ≤ 3; omega, by show 3 ≤ 100000; omega⟩).mono (fun x hx => ?_) (Nat.le_refl _)
    simp at hx
    rcases hx with rfl | rfl
    · exact hi
    · exact p2
  walk_at "n"
  refine x_ifS (P := fun _ => True) (c := 1) (a := a) (fun F H N g fa s Q q => ?_) g4.fh fa4 s4 (by omega) (fun _ F5 H5 g5 fa5 s5 => ?_) (fun _ F5 H5 g5 fa5 s5 => ?_)
  · exact (ets_and (ets_pure fun F H g _ => et_test (ev_eqI (ev_var rfl (ri _ w1)) ev_int)) (ets_test (es_eqI (EvS.nat (es_callP rfl (fun _ _ _ _ => ev_lit (n := 2)) ⟨by omega, by omega⟩)) es_int))) F H N g fa (s.le (by omega)) Q fun b F2 H2 g2 fa2 s2 _ => q b F2 H2 g2 fa2 s2 trivial
  · refine x_retS (a := a) (es_pure (R := rTup rNat) fun F H g _ => ev_tupL (ev_lcRm (fun _ => w2) (ev_var rfl (ri _ n)) (by omega) (fun v => rfl) fun i F H hi g => (ev_var rfl (rn _ w2)))) g5.fh fa5 s5 (by omega) fun v6 w6 F6 H6 g6 fa6 s6 p6 r6 => ?_
    refine k v6 w6 F6 H6 (g12.trans (g3.trans (g4.trans (g5.trans g6)))) fa6 (s6.le (by omega)) ?_ r6
    rw [p6]
    refine ⟨by rw [List.length_map, List.length_range], fun x hx => ?_⟩
    obtain ⟨p, hp, rfl⟩ := List.mem_map.mp hx
    exact p2
  · walk_at "n"
    refine x_retS (R := rTup rNat) (es_tupL (es_lcRP (n := n) (B := 32) (c2 := 1) (P2 := fun _ x => x < n) (fun F H _ _ => ev_var rfl (ri _ n)) n1 (by omega) (fun v => rfl) fun i hi F H g _ => es_callP rfl (fun F _ _ _ => ev_var rfl (rn F n)) ⟨by omega, by omega⟩)) g5.fh fa5 s5 (by omega) fun v6 w6 F6 H6 g6 fa6 s6 p6 r6 => k v6 w6 F6 H6 (g12.trans (g3.trans (g4.trans (g5.trans g6)))) fa6 (s6.le (by omega)) (isMap_of_all p6) r6
abbrev sp__law_turns (T : Tx K mg) : Sp := SpS1 200 rNat (fun n => 1 ≤ n ∧ n ≤ 32) (rPr rNat (rLst (rTup rNat))) (fun n p => 1 ≤ p.1 ∧ p.1 ≤ n ∧ 1 ≤ p.2.length ∧ p.2.length ≤ 4 ∧ ∀ m ∈ p.2, IsMap p.1 m)
theorem ok__law_turns (T : Tx K mg) : FnOk P w K mg base CX0 4 T.a__law_turns T.d__law_turns ["_law_well_here", "_law_most"] (sp__law_turns T) := by
  refine T.F__law_turns.ok sc__law_turns (fun vs H Q E h => SpLen.len h) (fun cdv A outer s H vs Q E hr h => ?_)
  obtain ⟨F, a, N, v, n, rfl, e, fa, s, r, ⟨n0, n1⟩, k⟩ := h
  cases (show v = _ from r)
  refine ⟨_, (by exact (pss_cons (ps_set (i := 2) sc__law_turns.nd rfl (Or.inr rfl) (pe_op op_add pe_int (pe_call (ok__law_draw T) (hr.mono (by decide)) rfl T.g__law_draw T.F__law_draw.kp T.b__law_draw .nil pass0 (pa_cons (pv 0) (pa_cons (pv 1) pa_nil)))))
      (pss_one (ps_ret (pe_tup (pa_cons (pv 2) (pa_cons (pe_lc (own := [("_law_k", 3)]) (g := gName 3) (tt := tYes) rfl sc__law_turns.nd (pi_range1 rfl T.z_range (pa_cons (pe_op op_add pe_int (pe_call (ok__law_draw T) (hr.mono (by decide)) rfl T.g__law_draw T.F__law_draw.kp T.b__law_draw .nil pass0 (pa_cons (pv 0) (pa_cons pe_int pa_nil)))) pa_nil)) (blkOk_by (own := [("_law_k", 3)]) (N := N__law_turns) (sc := defScope s__law_turns) (by decide +kernel)) (fun _ _ _ _ _ => (pg_name (i := 3) sc__law_turns.nd rfl (by first | exact Or.inl rfl | exact Or.inr rfl))) (fun _ _ _ _ _ => pts_nil) (fun _ _ _ _ _ => (pe_call (ok__law_map T) (hr.mono (by decide)) rfl T.g__law_map T.F__law_map.kp T.b__law_map .nil pass0 (pa_cons (pv 0) (pa_cons (pv 2) pa_nil))))) pa_nil))))))), ?_⟩
  have ri : ∀ F (i : Int), rInt F (.int i) i := fun F i => rfl
  have rn : ∀ F (i : Nat), rNat F (.int (i : Int)) i := fun F i => rfl
  walk_at "n"
  refine x_setS (es_add es_int (EvS.nat (es_callP rfl (fun F _ _ _ => ev_var rfl (rn F n)) ⟨by omega, by omega⟩))) e fa s (by omega) fun v1 w1 F1 H1 g1 fa1 s1 p1 r1 => ?_
  obtain ⟨_, _, rfl, ⟨d, rfl, hd⟩, rfl⟩ := p1
  obtain ⟨m, hm⟩ : ∃ m : Nat, (1 + (d : Int)) = (m : Int) := ⟨1 + d, by omega⟩
  rw [hm] at r1
  cases (show v1 = _ from r1)
  walk_at "n"
  refine x_retS (R := rPr rNat (rLst (rTup rNat))) (c := 161) (es_pr (P1 := fun x => x = m) (c1 := 0) (c2 := 161) (es_var rfl (rn _ m)) ((es_lcR (B := 4) (c1 := 1) (c2 := 40) (P1 := fun x => 1 ≤ x ∧ x ≤ 4) (P2 := fun _ x => IsMap m x) ((es_add es_int (EvS.nat (es_callP rfl (fun _ _ _ _ => ev_lit (n := 4)) ⟨by omega, by omega⟩))).mono (fun x hx => ?_) (by omega)) (by rintro x ⟨h1, h2⟩; omega) (by omega) (fun v => rfl) fun i hi F H g _ => es_callP rfl (fun F _ _ _ => ev_var rfl (rn F m)) ⟨by omega, by omega⟩).mono (fun _ h => h) (by omega))) g1.fh fa1 s1 (by omega) fun v2 w2 F2 H2 g2 fa2 s2 p2 r2 => ?_
  · obtain ⟨_, _, rfl, ⟨d, rfl, hd⟩, rfl⟩ := hx
    omega
  · obtain ⟨h1, _, ⟨h2, h3⟩, h4, h5⟩ := p2
    refine k v2 w2 F2 H2 (g1.trans g2) fa2 (s2.le (by omega)) ⟨by omega, by omega, by omega, by omega, fun x hx => ?_⟩ r2
    obtain ⟨i, hi⟩ := List.mem_iff_getElem?.mp hx
    rw [h1]
    exact h5 i x hi

abbrev sp__law_meeting (T : Tx K mg) : Sp := Sp3 (rTurns T.C_Turns) rNat (rLst rNat) (fun t n w => (∀ s ∈ w, s < t.maps.length) ∧ w.length ≤ 1000000 ∧ 1 ≤ n ∧ n ≤ 1000) (rLst rNat) meetM
theorem ok__law_meeting (T : Tx K mg) : FnOk P w K mg base CX0 5 T.a__law_meeting T.d__law_meeting ["_law_turns_here", "_law_long", "_law_word"] (sp__law_meeting T) := by
  refine T.F__law_meeting.ok sc__law_meeting (fun vs H Q E h => SpLen.len h) (fun cdv A outer s H vs Q E hr h => ?_)
  obtain ⟨F, v, u, w, t, n, xs, rfl, e, r1, r2, r3, ⟨p, hz, n0, n1⟩, k⟩ := h
  have t0 := t.h0
  have t1 := t.h1
  cases (show u = _ from r2)
  refine ⟨_, (by exact (pss_cons (ps_set (i := 3) sc__law_meeting.nd rfl (Or.inl rfl) (pe_lst pa_nil))
      (pss_cons (ps_for PassesOwn.never rfl (pi_range1 rfl T.z_range (pa_cons (pe_op op_fdiv (pe_callB (r := rLenS K) call_len_seq (by rfl) T.z_len PySem.boot_len (pa_cons (pv 2) pa_nil)) (pv 1)) pa_nil)) (pg_name (i := 4) sc__law_meeting.nd rfl (by first | exact Or.inl rfl | exact Or.inr rfl)) (pss_one (ps_if (pt_cmpR op_eq (klenset K (by rfl) T.z_len (by rfl) T.z_set (pe_call (ok_map_of T) (hr.mono (by decide)) rfl T.g_map_of T.F_map_of.kp T.b_map_of .nil pass0 (pa_cons (pv 0) (pa_cons (pe_slice (r := rSlL K) sl_list (pv 2) (po_some (pe_op op_mul (pv 4) (pv 1))) (po_some (pe_op op_mul (pe_op op_add (pv 4) pe_int) (pv 1)))) pa_nil)))) pe_int (nomark _)) (pss_one (ps_expr (kbm K PySem.F.plainAttrs_list PySem.F.slot_list_append PySem.F.type_list_append mt_append (pv 3) (pa_cons (pv 4) pa_nil)))) pss_nil)))
      (pss_one (ps_ret (pv 3)))))), ?_⟩
  walk_at "n"
  refine x_nil e fun l hl => ?_
  have fl0 : F l = none := e.free hl
  have G0 : Gr M0 F H F (upd H l (.lst [])) := .loc e hl
  walk_at "n"
  refine x_forR (n := xs.length / n) G0.fh (Ev.is (ev_fdiv (ev_lenL (ev_var rfl r3)) (ev_var rfl rfl) ⟨by omega, by omega⟩) (cast_div _ _)) (Nat.le_trans (Nat.div_le_self _ _) (by omega))
    (fun i σ' F' H' => Gr M0 F H F' H' ∧ F' l = none ∧ H' l = some (.lst (((List.range i).filter fun k => metB (blkM t n xs k)).map fun k : Nat => V.int (k : Int))) ∧ ∃ y, σ' = [some v, some (.int (n : Int)), some w, some (.ref l), y])
    (fun F3 H3 g => ⟨G0.trans g, g.nn upd_same fl0, g.hx _ _ upd_same, none, rfl⟩) ?_ ?_
  · rintro F3 e3 i σ' F' H' hi e4 e5 ⟨g, fl, hH, y, rfl⟩
    have hlen : xs.length / n ≤ xs.length := Nat.div_le_self _ _
    have hw : ∀ s ∈ (xs.drop (i * n)).take n, s < t.maps.length := blk_ok p i
    have hm : IsMap t.many (blkM t n xs i) := isMap_mapW hw
    have m1 := hm.1
    have hlf : ((List.range i).filter fun k => metB (blkM t n xs k)).length ≤ i := by
      have := List.length_filter_le (fun k => metB (blkM t n xs k)) (List.range i)
      rw [List.length_range] at this
      exact this
    refine x_if (b := metB (blkM t n xs i)) e5 (et_test (Ev.is (ev_eqI (ev_lenSet (ns := blkM t n xs i) (ev_call2 (y := (xs.drop (i * n)).take n) (ev_var rfl (Mn.mono g.ff r1)) (Ev.is (ev_slL (lo := some ((i * n : Nat) : Int)) (hi := some (((i + 1) * n : Nat) : Int)) (ev_var rfl (Mn.mono g.ff r3)) (eo_some (Ev.is (ev_mul (ev_var rfl (show rInt _ _ (i : Int) from rfl)) (ev_var rfl (show rInt _ _ (n : Int) from rfl)) (.inl ⟨by omega, by omega⟩)) (by rw [Int.natCast_mul])))
        (eo_some (Ev.is (ev_mul (ev_add (ev_var rfl (show rInt _ _ (i : Int) from rfl)) ev_int) (ev_var rfl (show rInt _ _ (n : Int) from rfl)) (.inl ⟨by omega, by omega⟩)) (by rw [Int.natCast_mul, Int.natCast_add]; rfl)))) ?_) hw) (by omega)) ev_int) decide_nat1)) (fun hb F4 H4 g4 => ?_) (fun hb F4 H4 g4 => ?_)
    · rw [cut_mid (Nat.mul_le_mul_right _ (Nat.le_succ i)), Nat.succ_mul, Nat.add_sub_cancel_left]
    · have hH4 := g4.hx _ _ hH
      refine x_app (R := rNat) (x := i) g4.fh (ev_var rfl (show rRef _ _ l from rfl)) hH4 (ev_var rfl rfl) (by rw [List.length_map, sizeLine_eq]; omega) fun v5 F5 H5 g5 r5 h5 => ?_
      cases (show v5 = _ from r5)
      have fl5 : F5 l = none := g5.nn hH4 (g4.nn hH fl)
      have G5 := (g.trans (g4.trans g5)).set' (o := .lst ((((List.range i).filter fun k => metB (blkM t n xs k)).map fun k : Nat => V.int (k : Int)) ++ [.int (i : Int)])) fl5 (.inl hl)
      refine ⟨F5, e4.trans (g4.ff.trans g5.ff), G5.fh, G5, fl5, ?_, _, rfl⟩
      rw [upd_same, List.range_succ, List.filter_append, List.filter_cons, if_pos hb, List.map_append]
      rfl
    · walk_at "n"
      refine ⟨F4, e4.trans g4.ff, g4.fh, g.trans g4, g4.nn hH fl, ?_, _, rfl⟩
      rw [g4.hx _ _ hH, List.range_succ, List.filter_append, List.filter_cons, if_neg (by rw [hb]; exact Bool.false_ne_true), List.filter_nil, List.append_nil]
  · rintro σ' F' H' e1 e2 ⟨g, fl, hH, y, rfl⟩
    refine ⟨.ref l, rfl, k _ _ _ (g.frz hH fl0 (.inl hl)) ⟨l, _, rfl, upd_same, ?_⟩⟩
    have : ∀ ks : List Nat, Paired (rNat (upd F' l (.lst (((List.range (xs.length / n)).filter fun k => metB (blkM t n xs k)).map fun k : Nat => V.int (k : Int))))) (ks.map fun k : Nat => V.int (k : Int)) ks := fun ks => by
      induction ks with
      | nil => exact .nil
      | cons a l ih => exact .cons rfl ih
    exact this _
def spLaw (K : PySem.W.Frag) : Sp := fun vs H Q _ => ∃ (a : Addr) (ns : List Int), vs = [.ref a] ∧ SqL K H a (ns.map V.int) ∧ ns.length ≤ 63 ∧ ∀ H', Q (.bl true) H'
abbrev sp_law (T : Tx K mg) : Sp := spLaw K
instance : SpLen (spLaw K) 1 := ⟨fun ⟨_, _, h, _⟩ => by rw [h]; rfl⟩
theorem ok_law (T : Tx K mg) : FnOk P w K mg base CX0 6 T.a_law T.d_law ["_law_script"] (sp_law T) := by
  refine T.F_law.ok sc_law (fun vs H Q E h => SpLen.len h) (fun cdv A outer s H vs Q E hr h => ?_)
  obtain ⟨sa, ns, rfl, hS, hlen, k⟩ := h
  refine ⟨_, (by exact (pss_cons (ps_for PassesOwn.never rfl (klist K (pe_op op_cat (pe_slice (r := rSlL K) sl_list (pv 0) po_none (po_some pe_int)) (pe_lst (pa_cons pe_int (pa_cons pe_int pa_nil))))) (pg_name (i := 1) sc_law.nd rfl (by first | exact Or.inl rfl | exact Or.inr rfl)) (pss_cons (ps_set (i := 2) sc_law.nd rfl (Or.inr rfl) (pe_call (ok__law_well T) (hr.mono (by decide)) rfl T.g__law_well T.F__law_well.kp T.b__law_well .nil pass0 (pa_cons (pv 1) pa_nil)))
      (pss_cons (ps_asg (pe_call (ok__law_turns T) (hr.mono (by decide)) rfl T.g__law_turns T.F__law_turns.kp T.b__law_turns .nil pass0 (pa_cons (pv 2) (pa_cons pe_int pa_nil))) (kptup K rfl (pgs_cons (pg_name (i := 3) sc_law.nd rfl (by first | exact Or.inl rfl | exact Or.inr rfl)) (pgs_cons (pg_name (i := 4) sc_law.nd rfl (by first | exact Or.inl rfl | exact Or.inr rfl)) pgs_nil))))
      (pss_cons (ps_set (i := 5) sc_law.nd rfl (Or.inl rfl) (pe_make T.mk_Turns (ok_Turns_init T) (hr.mono (by decide)) rfl T.g_Turns T.b_Turns_init .nil pass0 (pa_cons (pv 3) (pa_cons (pv 4) pa_nil))))
      (pss_cons (ps_set (i := 6) sc_law.nd rfl (Or.inl rfl) (pe_op op_add pe_int (pe_call (ok__law_draw T) (hr.mono (by decide)) rfl T.g__law_draw T.F__law_draw.kp T.b__law_draw .nil pass0 (pa_cons (pv 2) (pa_cons pe_int pa_nil)))))
      (pss_cons (ps_setLc (i := 7) (own := [("_law_k", 8)]) (g := gName 8) (tt := tYes) rfl sc_law.nd rfl rfl (sw_true rfl rfl rfl (by decide +kernel)) (pi_range1 rfl T.z_range (pa_cons (pe_call (ok__law_draw T) (hr.mono (by decide)) rfl T.g__law_draw T.F__law_draw.kp T.b__law_draw .nil pass0 (pa_cons (pv 2) (pa_cons pe_int pa_nil))) pa_nil)) (blkOk_by (own := [("_law_k", 8)]) (N := N_law) (sc := defScope s_law) (by decide +kernel)) (fun _ _ _ _ _ => (pg_name (i := 8) sc_law.nd rfl (by first | exact Or.inl rfl | exact Or.inr rfl))) (fun _ _ _ _ _ => pts_nil) (fun _ _ _ _ _ => (pe_call (ok__law_draw T) (hr.mono (by decide)) rfl T.g__law_draw T.F__law_draw.kp T.b__law_draw .nil pass0 (pa_cons (pv 2) (pa_cons (pe_callB (r := rLenS K) call_len_seq (by rfl) T.z_len PySem.boot_len (pa_cons (pv 4) pa_nil)) pa_nil)))))
      (pss_cons (ps_set (i := 9) sc_law.nd rfl (Or.inl rfl) (pe_call (ok__law_meeting T) (hr.mono (by decide)) rfl T.g__law_meeting T.F__law_meeting.kp T.b__law_meeting .nil pass0 (pa_cons (pv 5) (pa_cons (pv 6) (pa_cons (pv 7) pa_nil)))))
      (pss_cons (ps_set (i := 10) sc_law.nd rfl (Or.inl rfl) (pe_call (ok_read_once T) (hr.mono (by decide)) rfl T.g_read_once T.F_read_once.kp T.b_read_once .nil pass0 (pa_cons (pv 5) (pa_cons (pv 6) (pa_cons (pv 7) pa_nil)))))
      (pss_cons (ps_if (pt_cmpR op_ne (pe_cmpR op_isN1 (pv 10) pe_non (nomark _)) (pe_cmpR op_lt (pe_callB (r := rLenS K) call_len_seq (by rfl) T.z_len PySem.boot_len (pa_cons (pv 9) pa_nil)) pe_int (nomark _)) (nomark _)) (pss_one (ps_ret pe_bl)) pss_nil)
      (pss_one (ps_if (pt_cmpR op_notN1 (pv 10) pe_non (nomark _)) (pss_cons (ps_set (i := 11) sc_law.nd rfl (Or.inl rfl) (pe_slice (r := rSlL K) sl_list (pv 7) po_none (po_some (pe_op op_mul (pe_op op_sub (pe_ix (r := rIxT K) ix_tup (pv 10) pe_int (fun _ _ => rfl)) pe_int) (pv 6)))))
      (pss_cons (ps_set (i := 12) sc_law.nd rfl (Or.inl rfl) (pe_call (ok_drawn T) (hr.mono (by decide)) rfl T.g_drawn T.F_drawn.kp T.b_drawn .nil pass0 (pa_cons (pv 5) (pa_cons (krev K (pv 11)) pa_nil))))
      (pss_cons (ps_if (PW.pt (pw_or (pt_cmpR op_ne (pe_ix (r := rIxT K) ix_tup (pv 10) pe_int (fun _ _ => rfl)) (pe_op op_add (pe_ix (r := rIxL K) ix_list (pv 9) pe_int (fun _ _ => rfl)) pe_int) (nomark _)) (pw_or1 (pt_cmpR (r := rNeD K) (op_neD hr.units) (pe_call (ok_map_of T) (hr.mono (by decide)) rfl T.g_map_of T.F_map_of.kp T.b_map_of .nil pass0 (pa_cons (pv 5) (pa_cons (pv 11) pa_nil))) (pe_callTy (r := rTupS K) call_tuple_of (by rfl) T.z_tuple (by decide +kernel) (pa_cons (pe_op op_rep (pe_lst (pa_cons (pe_ix (r := rIxT K) ix_tup (pv 10) pe_int (fun _ _ => rfl)) pa_nil)) (pv 3)) pa_nil)) (nomark _))))) (pss_one (ps_ret pe_bl)) pss_nil)
      (pss_one (ps_if (PW.pt (pw_or (pt_cmpR op_isN1 (pv 12) pe_non (nomark _)) (pw_or (pt_cmpR op_ne (pe_ix (r := rIxT K) ix_tup (pv 12) pe_int (fun _ _ => rfl)) (pe_ix (r := rIxT K) ix_tup (pv 10) pe_int (fun _ _ => rfl)) (nomark _)) (pw_or1 (pt_cmpR op_gt (pe_ix (r := rIxT K) ix_tup (pv 12) pe_int (fun _ _ => rfl)) (pe_op op_mul (pe_op op_sub (pe_op op_sub (pe_ix (r := rIxT K) ix_tup (pv 10) pe_int (fun _ _ => rfl)) pe_int) (pe_ix (r := rIxL K) ix_list (pv 9) pe_int (fun _ _ => rfl))) (pv 6)) (nomark _)))))) (pss_one (ps_ret pe_bl)) pss_nil))))) pss_nil)))))))))))
      (pss_one (ps_ret pe_bl)))), ?_⟩
  have e : Ex (fun _ => none) H := fun a o h => nomatch h
  walk_at "n"
  refine x_forL (F := fun _ => none) (xs := ns.take 6 ++ [0, 1]) e (ev_cat (ev_script (n := 6) (ev_var rfl rfl) hS) (ev_lst (el_cons ev_int (el_cons ev_int el_nil)) (by show 2 ≤ sizeLine; decide)) ?_)
    (fun i σ' F' H' => ∃ y1 y2 y3 y4 y5 y6 y7 y8 y9 y10 y11 y12, σ' = [some (.ref sa), y1, y2, y3, y4, y5, y6, y7, y8, y9, y10, y11, y12]) (fun F1 H1 g => ⟨_, _, _, _, _, _, _, _, _, _, _, _, rfl⟩) ?_ ?_
  · rw [List.length_take, sizeLine_eq]
    show min 6 ns.length + 2 ≤ _
    omega
  · rintro F1 e1 i c u σ' F' H' hx e2 e3 r ⟨y1, y2, y3, y4, y5, y6, y7, y8, y9, y10, y11, y12, rfl⟩
    cases (show u = _ from r)
    walk_at "n"
    -- the source
    refine ⟨.int c, rfl, F', c, rfl, e3, fun b H2 g2 hb fb s2 => ?_⟩
    have fb2 : F' b = none := fb
    walk_at "n"
    -- the turns
    refine x_pairS (es_callP rfl (fun _ _ _ _ => ev_lit (n := 4)) ⟨by omega, by omega⟩) g2.fh fb2 s2 (by omega) fun v1 v2 p F3 H3 g3 fb3 s3 hp r1 r2 => ?_
    obtain ⟨many, maps⟩ := p
    obtain ⟨p1, p2, p3, p4, p5⟩ := hp
    have p1 : 1 ≤ many := p1
    have p2 : many ≤ 4 := p2
    have p3 : 1 ≤ maps.length := p3
    have p4 : maps.length ≤ 4 := p4
    have p5 : ∀ m ∈ maps, IsMap many m := p5
    cases (show v1 = _ from r1)
    let t : Tn := ⟨many, maps, p1, by omega, p3, by omega, p5⟩
    walk_at "n"
    refine x_set (R := rTurns T.C_Turns) (x := t) g3.fh (ev_Turns (ev_var rfl rfl) (ev_var rfl r2)) fun v3 F4 H4 g4 r3 => ?_
    have fb4 : F4 b = none := by obtain ⟨o, ho⟩ := s3.someO; exact g4.nn ho fb3
    walk_at "n"
    -- how long a block is
    refine x_setS (es_add es_int (EvS.nat (es_callP rfl (fun _ _ _ _ => ev_lit (n := 4)) ⟨by omega, by omega⟩))) g4.fh fb4 (s3.gr g4) (by omega) fun v5 w5 F5 H5 g5 fb5 s5 q5 r5 => ?_
    obtain ⟨_, _, rfl, ⟨d, rfl, hd⟩, rfl⟩ := q5
    obtain ⟨n, hn⟩ : ∃ n : Nat, (1 + (d : Int)) = (n : Int) := ⟨1 + d, by omega⟩
    rw [hn] at r5
    cases (show v5 = _ from r5)
    have n0 : 1 ≤ n := by omega
    have n1 : n ≤ 4 := by omega
    walk_at "n"
    -- the word
    have r25 : rLst (rTup rNat) F5 v2 maps := Mn.mono (g4.ff.trans g5.ff) r2
    refine x_setS (R := rLst rNat) (c := 62) ((es_lcR (B := 61) (c1 := 1) (c2 := 1) (P1 := fun x => 0 ≤ x ∧ x ≤ 61) (P2 := fun _ x => x < maps.length) ((EvS.nat (es_callP rfl (fun _ _ _ _ => ev_lit (n := 61)) ⟨by omega, by omega⟩)).mono (by rintro x ⟨m, rfl, h⟩; omega) (Nat.le_refl _)) (fun _ h => h) (by omega) (fun v => rfl) fun i hi F H g _ => es_callP (x := maps.length) rfl (fun F2 H2 g2 _ => ev_lenL (ev_var rfl (Mn.mono (g.ff.trans g2.ff) r25))) ⟨by omega, by omega⟩).mono (fun _ h => h) (by omega)) g5.fh fb5 s5 (by omega) fun v6 w F6 H6 g6 fb6 s6 q6 r6 => ?_
    obtain ⟨_, ⟨h0, h61⟩, hwl, hws⟩ := q6
    have hw : ∀ s ∈ w, s < t.maps.length := fun s hs => by
      obtain ⟨i, hi⟩ := List.mem_iff_getElem?.mp hs
      exact hws i s hi
    have hwlen : w.length ≤ 61 := by omega
    have r36 : rTurns T.C_Turns F6 v3 t := Mn.mono (g5.ff.trans g6.ff) r3
    walk_at "n"
    refine x_set (R := rLst rNat) (x := meetM t n w) g6.fh (ev_call3 (ev_var rfl r36) (ev_var rfl (show rNat _ _ n from rfl)) (ev_var rfl r6) ⟨hw, by omega, n0, by omega⟩) fun v7 F7 H7 g7 r7 => ?_
    walk_at "n"
    refine x_set (R := rOpt (rPr rNat rNat)) (x := readOnceM t n w) g7.fh (ev_call3 (ev_var rfl (Mn.mono g7.ff r36)) (ev_var rfl (show rNat _ _ n from rfl)) (ev_var rfl (Mn.mono g7.ff r6)) ⟨hw, by omega, n0, by omega⟩) fun v8 F8 H8 g8 r8 => ?_
    have law := once_law (n := n) hw
    have r78 := Mn.mono g8.ff r7
    have r68 := Mn.mono (g7.ff.trans g8.ff) r6
    have r38 := Mn.mono (g7.ff.trans g8.ff) r36
    have eF : Ex F1 F8 := e2.trans (g2.ff.trans (g3.ff.trans (g4.ff.trans (g5.ff.trans (g6.ff.trans (g7.ff.trans g8.ff))))))
    walk_at "n"
    refine x_if (b := false) g8.fh (et_test (Ev.is (ev_neB (ev_isN (ev_var rfl r8)) (ev_lt (ev_lenL (ev_var rfl r78)) ev_int)) ?_)) (fun z => nomatch z) fun _ F9 H9 g9 => ?_
    · revert law
      cases readOnceM t n w with
      | none =>
        intro h
        have h2 : (meetM t n w).length < 2 := h
        rw [decide_eq_true (show ((meetM t n w).length : Int) < 2 by omega)]
        rfl
      | some q =>
        obtain ⟨s, kk⟩ := q
        rintro ⟨i0, i1, rest, h, _⟩
        rw [h, decide_eq_false (show ¬ (((i0 :: i1 :: rest).length : Nat) : Int) < 2 by simp; omega)]
        rfl
    walk_at "n"
    refine x_if (b := (readOnceM t n w).isSome) g9.fh (et_test (ev_notN (ev_var rfl (Mn.mono g9.ff r8)))) (fun hb F10 H10 g10 => ?_) (fun hb F10 H10 g10 => ?_)
    · obtain ⟨⟨s, kk⟩, hq⟩ := Option.isSome_iff_exists.mp hb
      rw [hq] at law r8
      obtain ⟨i0, i1, rest, hm, rfl, h01, hi1, hmap, uu, hdr, hu⟩ := law
      have rf : rPr rNat rNat F10 v8 (s, i1 + 1) := Mn.mono (g9.ff.trans g10.ff) (show rPr rNat rNat F8 v8 (s, i1 + 1) from r8)
      have r6a := Mn.mono (g9.ff.trans g10.ff) r68
      have r3a := Mn.mono (g9.ff.trans g10.ff) r38
      have r7a := Mn.mono (g9.ff.trans g10.ff) r78
      have hlt : ∀ s ∈ w.take (i1 * n), s < t.maps.length := fun s h => hw s (List.mem_of_mem_take h)
      have hi61 : i1 ≤ i1 * n := Nat.le_mul_of_pos_right _ n0
      have hlen1 : (w.take (i1 * n)).length ≤ 61 := Nat.le_trans (List.length_take_le _ _) (by omega)
      walk_at "n"
      refine x_set (R := rLst rNat) (x := w.take (i1 * n)) g10.fh (Ev.is (ev_slL (lo := none) (hi := some ((i1 * n : Nat) : Int)) (ev_var rfl r6a) eo_none (eo_some (Ev.is (ev_mul (ev_sub (ev_snd (ev_var rfl rf)).nat ev_int) (ev_var rfl (show rInt _ _ (n : Int) from rfl)) (.inl ⟨by show _ < ((i1 + 1 : Nat) : Int) - 1; omega, by show ((i1 + 1 : Nat) : Int) - 1 < _; omega⟩)) ?_))) cut_to) fun v9 F11 H11 g11 r9 => ?_
      · show (((i1 + 1 : Nat) : Int) - 1) * (n : Int) = _
        rw [show ((i1 + 1 : Nat) : Int) - 1 = (i1 : Int) by omega, Int.natCast_mul]
      walk_at "n"
      refine x_set (R := rOpt (rPr rNat rNat)) (x := some (s, uu)) g11.fh (Ev.is (ev_call2 (ev_var rfl (Mn.mono g11.ff r3a)) (ev_rev (ev_var rfl r9)) ⟨fun s h => hlt s (List.mem_reverse.mp h), by rw [List.length_reverse]; omega⟩) hdr) fun v10 F12 H12 g12 r10 => ?_
      have gA := g11.ff.trans g12.ff
      have rf2 := Mn.mono gA rf
      have r92 := Mn.mono g12.ff r9
      walk_at "n"
      refine x_if (b := false) g12.fh (EvT.is (et_or (et_test (ev_neI (ev_snd (ev_var rfl rf2)).nat (ev_add (ev_ixL (x := i1) (ev_var rfl (Mn.mono gA r7a)) ev_int ?_).nat ev_int))) fun _ => et_test (ev_neD (ev_call2 (ev_var rfl (Mn.mono gA r3a)) (ev_var rfl r92) hlt) (ev_tupL (ev_rep1 (ev_lst (el_cons (ev_fst (ev_var rfl rf2)) el_nil) (by show 1 ≤ sizeLine; decide)) (ev_var rfl (show rInt _ _ (many : Int) from rfl)) (by omega) (by omega))))) ?_) (fun z => nomatch z) fun _ F13 H13 g13 => ?_
      · rw [hm]; exact atI_natL (n := 1) rfl
      · show (!decide (((i1 + 1 : Nat) : Int) = (i1 : Int) + 1) || !decide (mapW t (w.take (i1 * n)) = List.replicate ((many : Int)).toNat s)) = false
        rw [hmap, decide_eq_true (show ((i1 + 1 : Nat) : Int) = (i1 : Int) + 1 from rfl), decide_eq_true (show List.replicate t.many s = List.replicate ((many : Int)).toNat s from rfl)]
        rfl
      have gB := gA.trans g13.ff
      have rf3 := Mn.mono g13.ff rf2
      have r10a := Mn.mono g13.ff r10
      have re : rPr rNat rNat F13 v10 (s, uu) := r10a
      have hi64 : i1 ≤ 61 := by omega
      walk_at "n"
      refine x_if (b := false) g13.fh (EvT.is (et_or (et_test (ev_isN (ev_var rfl r10a))) fun _ => et_or (et_test (ev_neI (ev_fst (ev_var rfl re)).nat (ev_fst (ev_var rfl rf3)).nat)) fun _ => et_test (ev_gt (ev_snd (ev_var rfl re)).nat (ev_mul (ev_sub (ev_sub (ev_snd (ev_var rfl rf3)).nat ev_int) (ev_ixL (x := i0) (ev_var rfl (Mn.mono gB r7a)) ev_int ?_).nat) (ev_var rfl (show rInt _ _ (n : Int) from rfl)) (.inl ⟨by show _ < ((i1 + 1 : Nat) : Int) - 1 - (i0 : Int); omega, by show ((i1 + 1 : Nat) : Int) - 1 - (i0 : Int) < _; omega⟩)))) ?_) (fun z => nomatch z) fun _ F14 H14 g14 => ?_
      · rw [hm]; exact atI_natL (n := 0) rfl
      · show (false || (!decide ((s : Int) = (s : Int)) || decide ((((i1 + 1 : Nat) : Int) - 1 - (i0 : Int)) * (n : Int) < (uu : Int)))) = false
        have h : (((i1 + 1 : Nat) : Int) - 1 - (i0 : Int)) * (n : Int) = (((i1 - i0) * n : Nat) : Int) := by
          rw [Int.natCast_mul, show ((i1 + 1 : Nat) : Int) - 1 - (i0 : Int) = ((i1 - i0 : Nat) : Int) by omega]
        rw [h, decide_eq_false (show ¬ ((((i1 - i0) * n : Nat) : Int) < (uu : Int)) by omega)]
        simp
      walk_at "n"
      exact ⟨F14, eF.trans (g9.ff.trans (g10.ff.trans (gB.trans g14.ff))), g14.fh, _, _, _, _, _, _, _, _, _, _, _, _, rfl⟩
    · walk_at "n"
      exact ⟨F10, eF.trans (g9.ff.trans g10.ff), g10.fh, _, _, _, _, _, _, _, _, _, _, _, _, rfl⟩
  · rintro σ' F' H' e1 e2 ⟨y1, y2, y3, y4, y5, y6, y7, y8, y9, y10, y11, y12, rfl⟩
    walk_at "n"
    exact x_ret e2 ev_bl fun v F' H' g r => by
      cases (show v = _ from r)
      exact k _

end
theorem all_mk {l : PySem.W.OpenLaw} {w : World} {K : PySem.W.Frag} {h : Heap} {mg : Str → Option Value} {fa f_is_whole f_is_between f_is_map f_Turns_init f_Turns_len f_check_signs f_begin_of f_then f_has_met f_map_of f_read_once f_Draw_init f_Draw_place f_Draw_used f_Draw_elder f_drawn f__law_well f__law_draw f__law_one f__law_map f__law_turns f__law_meeting f_law C_Draw C_Turns : Addr} {t_MOST_PLACES t_MOST_SIGNS : Tok} (X : K.In h) (G : h.Ns mainGlobals mg) (hfa : mg "law" = some (.ref fa))
    {od_is_whole an_is_whole : Option Addr} {sl_is_whole : Array (Option Value)} {oc_is_whole kV_is_whole dc_is_whole pm_is_whole cd_is_whole ct_is_whole : Value}
    {od_is_between an_is_between : Option Addr} {sl_is_between : Array (Option Value)} {oc_is_between kV_is_between dc_is_between pm_is_between cd_is_between ct_is_between : Value}
    {od_is_map an_is_map : Option Addr} {sl_is_map : Array (Option Value)} {oc_is_map kV_is_map dc_is_map pm_is_map cd_is_map ct_is_map : Value}
    {od_Turns_init an_Turns_init : Option Addr} {sl_Turns_init : Array (Option Value)} {oc_Turns_init kV_Turns_init dc_Turns_init pm_Turns_init cd_Turns_init ct_Turns_init : Value}
    {od_Turns_len an_Turns_len : Option Addr} {sl_Turns_len : Array (Option Value)} {oc_Turns_len kV_Turns_len dc_Turns_len pm_Turns_len cd_Turns_len ct_Turns_len : Value}
    {od_check_signs an_check_signs : Option Addr} {sl_check_signs : Array (Option Value)} {oc_check_signs kV_check_signs dc_check_signs pm_check_signs cd_check_signs ct_check_signs : Value}
    {od_begin_of an_begin_of : Option Addr} {sl_begin_of : Array (Option Value)} {oc_begin_of kV_begin_of dc_begin_of pm_begin_of cd_begin_of ct_begin_of : Value}
    {od_then an_then : Option Addr} {sl_then : Array (Option Value)} {oc_then kV_then dc_then pm_then cd_then ct_then : Value}
    {od_has_met an_has_met : Option Addr} {sl_has_met : Array (Option Value)} {oc_has_met kV_has_met dc_has_met pm_has_met cd_has_met ct_has_met : Value}
    {od_map_of an_map_of : Option Addr} {sl_map_of : Array (Option Value)} {oc_map_of kV_map_of dc_map_of pm_map_of cd_map_of ct_map_of : Value}
    {od_read_once an_read_once : Option Addr} {sl_read_once : Array (Option Value)} {oc_read_once kV_read_once dc_read_once pm_read_once cd_read_once ct_read_once : Value}
    {od_Draw_init an_Draw_init : Option Addr} {sl_Draw_init : Array (Option Value)} {oc_Draw_init kV_Draw_init dc_Draw_init pm_Draw_init cd_Draw_init ct_Draw_init : Value}
    {od_Draw_place an_Draw_place : Option Addr} {sl_Draw_place : Array (Option Value)} {oc_Draw_place kV_Draw_place dc_Draw_place pm_Draw_place cd_Draw_place ct_Draw_place : Value}
    {od_Draw_used an_Draw_used : Option Addr} {sl_Draw_used : Array (Option Value)} {oc_Draw_used kV_Draw_used dc_Draw_used pm_Draw_used cd_Draw_used ct_Draw_used : Value}
    {od_Draw_elder an_Draw_elder : Option Addr} {sl_Draw_elder : Array (Option Value)} {oc_Draw_elder kV_Draw_elder dc_Draw_elder pm_Draw_elder cd_Draw_elder ct_Draw_elder : Value}
    {od_drawn an_drawn : Option Addr} {sl_drawn : Array (Option Value)} {oc_drawn kV_drawn dc_drawn pm_drawn cd_drawn ct_drawn : Value}
    {od__law_well an__law_well : Option Addr} {sl__law_well : Array (Option Value)} {oc__law_well kV__law_well dc__law_well pm__law_well cd__law_well ct__law_well : Value}
    {od__law_draw an__law_draw : Option Addr} {sl__law_draw : Array (Option Value)} {oc__law_draw kV__law_draw dc__law_draw pm__law_draw cd__law_draw ct__law_draw : Value}
    {od__law_one an__law_one : Option Addr} {sl__law_one : Array (Option Value)} {oc__law_one kV__law_one dc__law_one pm__law_one cd__law_one ct__law_one : Value}
    {od__law_map an__law_map : Option Addr} {sl__law_map : Array (Option Value)} {oc__law_map kV__law_map dc__law_map pm__law_map cd__law_map ct__law_map : Value}
    {od__law_turns an__law_turns : Option Addr} {sl__law_turns : Array (Option Value)} {oc__law_turns kV__law_turns dc__law_turns pm__law_turns cd__law_turns ct__law_turns : Value}
    {od__law_meeting an__law_meeting : Option Addr} {sl__law_meeting : Array (Option Value)} {oc__law_meeting kV__law_meeting dc__law_meeting pm__law_meeting cd__law_meeting ct__law_meeting : Value}
    {od_law an_law : Option Addr} {sl_law : Array (Option Value)} {oc_law kV_law dc_law pm_law cd_law ct_law : Value}
    (aC_Draw : PySem.W.nsIn K mainGlobals "Draw" = some (some (.ref C_Draw)))
    (aC_Turns : PySem.W.nsIn K mainGlobals "Turns" = some (some (.ref C_Turns)))
    (a_is_whole : PySem.W.nsIn K mainGlobals "is_whole" = some (some (.ref f_is_whole)))
    (l_is_whole : K.lookup f_is_whole = some ⟨oc_is_whole, od_is_whole, .func (PySem.W.fnOf "is_whole" "is_whole" (defArgs s_is_whole) (defBody s_is_whole) (defScope s_is_whole) .none kV_is_whole dc_is_whole pm_is_whole an_is_whole cd_is_whole ct_is_whole), sl_is_whole⟩)
    (c_is_whole : PySem.W.codeIn K cd_is_whole "is_whole" = true)
    (k_is_whole : PySem.W.keepIn K (.ref f_is_whole) = true)
    (a_is_between : PySem.W.nsIn K mainGlobals "is_between" = some (some (.ref f_is_between)))
    (l_is_between : K.lookup f_is_between = some ⟨oc_is_between, od_is_between, .func (PySem.W.fnOf "is_between" "is_between" (defArgs s_is_between) (defBody s_is_between) (defScope s_is_between) .none kV_is_between dc_is_between pm_is_between an_is_between cd_is_between ct_is_between), sl_is_between⟩)
    (c_is_between : PySem.W.codeIn K cd_is_between "is_between" = true)
    (k_is_between : PySem.W.keepIn K (.ref f_is_between) = true)
    (a_is_map : PySem.W.nsIn K mainGlobals "is_map" = some (some (.ref f_is_map)))
    (l_is_map : K.lookup f_is_map = some ⟨oc_is_map, od_is_map, .func (PySem.W.fnOf "is_map" "is_map" (defArgs s_is_map) (defBody s_is_map) (defScope s_is_map) .none kV_is_map dc_is_map pm_is_map an_is_map cd_is_map ct_is_map), sl_is_map⟩)
    (c_is_map : PySem.W.codeIn K cd_is_map "is_map" = true)
    (k_is_map : PySem.W.keepIn K (.ref f_is_map) = true)
    (a_Turns_init : PySem.W.findIn K (.ref C_Turns) "__init__" = some (some (.ref f_Turns_init)))
    (i_Turns_init : PySem.W.isFn K (.ref f_Turns_init) = true)
    (l_Turns_init : K.lookup f_Turns_init = some ⟨oc_Turns_init, od_Turns_init, .func (PySem.W.fnOf "__init__" "Turns.__init__" (defArgs s_Turns_init) (defBody s_Turns_init) (defScope s_Turns_init) .none kV_Turns_init dc_Turns_init pm_Turns_init an_Turns_init cd_Turns_init ct_Turns_init), sl_Turns_init⟩)
    (c_Turns_init : PySem.W.codeIn K cd_Turns_init "Turns.__init__" = true)
    (k_Turns_init : PySem.W.keepIn K (.ref f_Turns_init) = true)
    (a_Turns_len : PySem.W.findIn K (.ref C_Turns) "__len__" = some (some (.ref f_Turns_len)))
    (i_Turns_len : PySem.W.isFn K (.ref f_Turns_len) = true)
    (l_Turns_len : K.lookup f_Turns_len = some ⟨oc_Turns_len, od_Turns_len, .func (PySem.W.fnOf "__len__" "Turns.__len__" (defArgs s_Turns_len) (defBody s_Turns_len) (defScope s_Turns_len) .none kV_Turns_len dc_Turns_len pm_Turns_len an_Turns_len cd_Turns_len ct_Turns_len), sl_Turns_len⟩)
    (c_Turns_len : PySem.W.codeIn K cd_Turns_len "Turns.__len__" = true)
    (k_Turns_len : PySem.W.keepIn K (.ref f_Turns_len) = true)
    (a_check_signs : PySem.W.nsIn K mainGlobals "check_signs" = some (some (.ref f_check_signs)))
    (l_check_signs : K.lookup f_check_signs = some ⟨oc_check_signs, od_check_signs, .func (PySem.W.fnOf "check_signs" "check_signs" (defArgs s_check_signs) (defBody s_check_signs) (defScope s_check_signs) .none kV_check_signs dc_check_signs pm_check_signs an_check_signs cd_check_signs ct_check_signs), sl_check_signs⟩)
    (c_check_signs : PySem.W.codeIn K cd_check_signs "check_signs" = true)
    (k_check_signs : PySem.W.keepIn K (.ref f_check_signs) = true)
    (a_begin_of : PySem.W.nsIn K mainGlobals "begin_of" = some (some (.ref f_begin_of)))
    (l_begin_of : K.lookup f_begin_of = some ⟨oc_begin_of, od_begin_of, .func (PySem.W.fnOf "begin_of" "begin_of" (defArgs s_begin_of) (defBody s_begin_of) (defScope s_begin_of) .none kV_begin_of dc_begin_of pm_begin_of an_begin_of cd_begin_of ct_begin_of), sl_begin_of⟩)
    (c_begin_of : PySem.W.codeIn K cd_begin_of "begin_of" = true)
    (k_begin_of : PySem.W.keepIn K (.ref f_begin_of) = true)
    (a_then : PySem.W.nsIn K mainGlobals "then" = some (some (.ref f_then)))
    (l_then : K.lookup f_then = some ⟨oc_then, od_then, .func (PySem.W.fnOf "then" "then" (defArgs s_then) (defBody s_then) (defScope s_then) .none kV_then dc_then pm_then an_then cd_then ct_then), sl_then⟩)
    (c_then : PySem.W.codeIn K cd_then "then" = true)
    (k_then : PySem.W.keepIn K (.ref f_then) = true)
    (a_has_met : PySem.W.nsIn K mainGlobals "has_met" = some (some (.ref f_has_met)))
    (l_has_met : K.lookup f_has_met = some ⟨oc_has_met, od_has_met, .func (PySem.W.fnOf "has_met" "has_met" (defArgs s_has_met) (defBody s_has_met) (defScope s_has_met) .none kV_has_met dc_has_met pm_has_met an_has_met cd_has_met ct_has_met), sl_has_met⟩)
    (c_has_met : PySem.W.codeIn K cd_has_met "has_met" = true)
    (k_has_met : PySem.W.keepIn K (.ref f_has_met) = true)
    (a_map_of : PySem.W.nsIn K mainGlobals "map_of" = some (some (.ref f_map_of)))
    (l_map_of : K.lookup f_map_of = some ⟨oc_map_of, od_map_of, .func (PySem.W.fnOf "map_of" "map_of" (defArgs s_map_of) (defBody s_map_of) (defScope s_map_of) .none kV_map_of dc_map_of pm_map_of an_map_of cd_map_of ct_map_of), sl_map_of⟩)
    (c_map_of : PySem.W.codeIn K cd_map_of "map_of" = true)
    (k_map_of : PySem.W.keepIn K (.ref f_map_of) = true)
    (a_read_once : PySem.W.nsIn K mainGlobals "read_once" = some (some (.ref f_read_once)))
    (l_read_once : K.lookup f_read_once = some ⟨oc_read_once, od_read_once, .func (PySem.W.fnOf "read_once" "read_once" (defArgs s_read_once) (defBody s_read_once) (defScope s_read_once) .none kV_read_once dc_read_once pm_read_once an_read_once cd_read_once ct_read_once), sl_read_once⟩)
    (c_read_once : PySem.W.codeIn K cd_read_once "read_once" = true)
    (k_read_once : PySem.W.keepIn K (.ref f_read_once) = true)
    (a_Draw_init : PySem.W.findIn K (.ref C_Draw) "__init__" = some (some (.ref f_Draw_init)))
    (i_Draw_init : PySem.W.isFn K (.ref f_Draw_init) = true)
    (l_Draw_init : K.lookup f_Draw_init = some ⟨oc_Draw_init, od_Draw_init, .func (PySem.W.fnOf "__init__" "Draw.__init__" (defArgs s_Draw_init) (defBody s_Draw_init) (defScope s_Draw_init) .none kV_Draw_init dc_Draw_init pm_Draw_init an_Draw_init cd_Draw_init ct_Draw_init), sl_Draw_init⟩)
    (c_Draw_init : PySem.W.codeIn K cd_Draw_init "Draw.__init__" = true)
    (k_Draw_init : PySem.W.keepIn K (.ref f_Draw_init) = true)
    (a_Draw_place : PySem.W.findIn K (.ref C_Draw) "place" = some (some (.ref f_Draw_place)))
    (i_Draw_place : PySem.W.isFn K (.ref f_Draw_place) = true)
    (l_Draw_place : K.lookup f_Draw_place = some ⟨oc_Draw_place, od_Draw_place, .func (PySem.W.fnOf "place" "Draw.place" (defArgs s_Draw_place) (defBody s_Draw_place) (defScope s_Draw_place) .none kV_Draw_place dc_Draw_place pm_Draw_place an_Draw_place cd_Draw_place ct_Draw_place), sl_Draw_place⟩)
    (c_Draw_place : PySem.W.codeIn K cd_Draw_place "Draw.place" = true)
    (k_Draw_place : PySem.W.keepIn K (.ref f_Draw_place) = true)
    (a_Draw_used : PySem.W.findIn K (.ref C_Draw) "used" = some (some (.ref f_Draw_used)))
    (i_Draw_used : PySem.W.isFn K (.ref f_Draw_used) = true)
    (l_Draw_used : K.lookup f_Draw_used = some ⟨oc_Draw_used, od_Draw_used, .func (PySem.W.fnOf "used" "Draw.used" (defArgs s_Draw_used) (defBody s_Draw_used) (defScope s_Draw_used) .none kV_Draw_used dc_Draw_used pm_Draw_used an_Draw_used cd_Draw_used ct_Draw_used), sl_Draw_used⟩)
    (c_Draw_used : PySem.W.codeIn K cd_Draw_used "Draw.used" = true)
    (k_Draw_used : PySem.W.keepIn K (.ref f_Draw_used) = true)
    (a_Draw_elder : PySem.W.findIn K (.ref C_Draw) "elder" = some (some (.ref f_Draw_elder)))
    (i_Draw_elder : PySem.W.isFn K (.ref f_Draw_elder) = true)
    (l_Draw_elder : K.lookup f_Draw_elder = some ⟨oc_Draw_elder, od_Draw_elder, .func (PySem.W.fnOf "elder" "Draw.elder" (defArgs s_Draw_elder) (defBody s_Draw_elder) (defScope s_Draw_elder) .none kV_Draw_elder dc_Draw_elder pm_Draw_elder an_Draw_elder cd_Draw_elder ct_Draw_elder), sl_Draw_elder⟩)
    (c_Draw_elder : PySem.W.codeIn K cd_Draw_elder "Draw.elder" = true)
    (k_Draw_elder : PySem.W.keepIn K (.ref f_Draw_elder) = true)
    (a_drawn : PySem.W.nsIn K mainGlobals "drawn" = some (some (.ref f_drawn)))
    (l_drawn : K.lookup f_drawn = some ⟨oc_drawn, od_drawn, .func (PySem.W.fnOf "drawn" "drawn" (defArgs s_drawn) (defBody s_drawn) (defScope s_drawn) .none kV_drawn dc_drawn pm_drawn an_drawn cd_drawn ct_drawn), sl_drawn⟩)
    (c_drawn : PySem.W.codeIn K cd_drawn "drawn" = true)
    (k_drawn : PySem.W.keepIn K (.ref f_drawn) = true)
    (a__law_well : PySem.W.nsIn K mainGlobals "_law_well" = some (some (.ref f__law_well)))
    (l__law_well : K.lookup f__law_well = some ⟨oc__law_well, od__law_well, .func (PySem.W.fnOf "_law_well" "_law_well" (defArgs s__law_well) (defBody s__law_well) (defScope s__law_well) .none kV__law_well dc__law_well pm__law_well an__law_well cd__law_well ct__law_well), sl__law_well⟩)
    (c__law_well : PySem.W.codeIn K cd__law_well "_law_well" = true)
    (k__law_well : PySem.W.keepIn K (.ref f__law_well) = true)
    (a__law_draw : PySem.W.nsIn K mainGlobals "_law_draw" = some (some (.ref f__law_draw)))
    (l__law_draw : K.lookup f__law_draw = some ⟨oc__law_draw, od__law_draw, .func (PySem.W.fnOf "_law_draw" "_law_draw" (defArgs s__law_draw) (defBody s__law_draw) (defScope s__law_draw) .none kV__law_draw dc__law_draw pm__law_draw an__law_draw cd__law_draw ct__law_draw), sl__law_draw⟩)
    (c__law_draw : PySem.W.codeIn K cd__law_draw "_law_draw" = true)
    (k__law_draw : PySem.W.keepIn K (.ref f__law_draw) = true)
    (a__law_one : PySem.W.nsIn K mainGlobals "_law_one" = some (some (.ref f__law_one)))
    (l__law_one : K.lookup f__law_one = some ⟨oc__law_one, od__law_one, .func (PySem.W.fnOf "_law_one" "_law_one" (defArgs s__law_one) (defBody s__law_one) (defScope s__law_one) .none kV__law_one dc__law_one pm__law_one an__law_one cd__law_one ct__law_one), sl__law_one⟩)
    (c__law_one : PySem.W.codeIn K cd__law_one "_law_one" = true)
    (k__law_one : PySem.W.keepIn K (.ref f__law_one) = true)
    (a__law_map : PySem.W.nsIn K mainGlobals "_law_map" = some (some (.ref f__law_map)))
    (l__law_map : K.lookup f__law_map = some ⟨oc__law_map, od__law_map, .func (PySem.W.fnOf "_law_map" "_law_map" (defArgs s__law_map) (defBody s__law_map) (defScope s__law_map) .none kV__law_map dc__law_map pm__law_map an__law_map cd__law_map ct__law_map), sl__law_map⟩)
    (c__law_map : PySem.W.codeIn K cd__law_map "_law_map" = true)
    (k__law_map : PySem.W.keepIn K (.ref f__law_map) = true)
    (a__law_turns : PySem.W.nsIn K mainGlobals "_law_turns" = some (some (.ref f__law_turns)))
    (l__law_turns : K.lookup f__law_turns = some ⟨oc__law_turns, od__law_turns, .func (PySem.W.fnOf "_law_turns" "_law_turns" (defArgs s__law_turns) (defBody s__law_turns) (defScope s__law_turns) .none kV__law_turns dc__law_turns pm__law_turns an__law_turns cd__law_turns ct__law_turns), sl__law_turns⟩)
    (c__law_turns : PySem.W.codeIn K cd__law_turns "_law_turns" = true)
    (k__law_turns : PySem.W.keepIn K (.ref f__law_turns) = true)
    (a__law_meeting : PySem.W.nsIn K mainGlobals "_law_meeting" = some (some (.ref f__law_meeting)))
    (l__law_meeting : K.lookup f__law_meeting = some ⟨oc__law_meeting, od__law_meeting, .func (PySem.W.fnOf "_law_meeting" "_law_meeting" (defArgs s__law_meeting) (defBody s__law_meeting) (defScope s__law_meeting) .none kV__law_meeting dc__law_meeting pm__law_meeting an__law_meeting cd__law_meeting ct__law_meeting), sl__law_meeting⟩)
    (c__law_meeting : PySem.W.codeIn K cd__law_meeting "_law_meeting" = true)
    (k__law_meeting : PySem.W.keepIn K (.ref f__law_meeting) = true)
    (a_law : PySem.W.nsIn K mainGlobals "law" = some (some (.ref f_law)))
    (l_law : K.lookup f_law = some ⟨oc_law, od_law, .func (PySem.W.fnOf "law" "law" (defArgs s_law) (defBody s_law) (defScope s_law) .none kV_law dc_law pm_law an_law cd_law ct_law), sl_law⟩)
    (c_law : PySem.W.codeIn K cd_law "law" = true)
    (k_law : PySem.W.keepIn K (.ref f_law) = true)
    (pg_Draw : PySem.W.plainGet K C_Draw Str.empty = true)
    (hd_Draw : PySem.W.hasDictIn K C_Draw = true)
    (po_Draw : PySem.W.plainOver K C_Draw = true)
    (sa_Draw : PySem.W.findIn K (.ref C_Draw) "__setattr__" = some (some (.builtin "object.__setattr__")))
    (kc_Draw : PySem.W.keepIn K (.ref C_Draw) = true)
    (mk_Draw : PySem.W.makesIn K C_Draw = true)
    (pg_Turns : PySem.W.plainGet K C_Turns Str.empty = true)
    (hd_Turns : PySem.W.hasDictIn K C_Turns = true)
    (po_Turns : PySem.W.plainOver K C_Turns = true)
    (sa_Turns : PySem.W.findIn K (.ref C_Turns) "__setattr__" = some (some (.builtin "object.__setattr__")))
    (kc_Turns : PySem.W.keepIn K (.ref C_Turns) = true)
    (mk_Turns : PySem.W.makesIn K C_Turns = true)
    (na_Draw_found : PySem.W.findIn K (.ref C_Draw) "found" = some none)
    (na_Draw_many : PySem.W.findIn K (.ref C_Draw) "many" = some none)
    (na_Draw_told : PySem.W.findIn K (.ref C_Draw) "told" = some none)
    (na_Draw_turns : PySem.W.findIn K (.ref C_Draw) "turns" = some none)
    (na_Turns_many : PySem.W.findIn K (.ref C_Turns) "many" = some none)
    (na_Turns_maps : PySem.W.findIn K (.ref C_Turns) "maps" = some none)
    (z_all : PySem.W.nsIn K mainGlobals "all" = some none)
    (z_bool : PySem.W.nsIn K mainGlobals "bool" = some none)
    (z_int : PySem.W.nsIn K mainGlobals "int" = some none)
    (z_isinstance : PySem.W.nsIn K mainGlobals "isinstance" = some none)
    (z_len : PySem.W.nsIn K mainGlobals "len" = some none)
    (z_list : PySem.W.nsIn K mainGlobals "list" = some none)
    (z_range : PySem.W.nsIn K mainGlobals "range" = some none)
    (z_set : PySem.W.nsIn K mainGlobals "set" = some none)
    (z_tuple : PySem.W.nsIn K mainGlobals "tuple" = some none)
    (g_MOST_PLACES : PySem.W.nsIn K mainGlobals "MOST_PLACES" = some (some (.int 32 t_MOST_PLACES)))
    (g_MOST_SIGNS : PySem.W.nsIn K mainGlobals "MOST_SIGNS" = some (some (.int 200 t_MOST_SIGNS)))
    : ∃ fd : FuncData, (∀ (s : Shared) (v : Value), BindsTo s fd ⟨[v], []⟩ [("_law_script", v)]) ∧ ∀ base : Heap, K.In base → base.Ns mainGlobals mg → FnOk l.prog w K mg base CX0 6 fa fd ["_law_script"] (spLaw K) := by
  have e : f_law = fa := by
    have e := hfa.symm.trans (PySem.W.mg_of X G a_law)
    cases e
    rfl
  subst e
  have F_is_whole := fun_mk (st := s_is_whole) l_is_whole c_is_whole k_is_whole
  have b_is_whole := F_is_whole.binds (ps := ["thing"]) fun _ _ _ _ _ _ us hl => match us, hl with | [_], _ => rfl
  have F_is_between := fun_mk (st := s_is_between) l_is_between c_is_between k_is_between
  have b_is_between := F_is_between.binds (ps := ["thing", "least", "most"]) fun _ _ _ _ _ _ us hl => match us, hl with | [_, _, _], _ => rfl
  have F_is_map := fun_mk (st := s_is_map) l_is_map c_is_map k_is_map
  have b_is_map := F_is_map.binds (ps := ["thing", "many"]) fun _ _ _ _ _ _ us hl => match us, hl with | [_, _], _ => rfl
  have F_Turns_init := fun_mk (st := s_Turns_init) l_Turns_init c_Turns_init k_Turns_init
  have b_Turns_init := F_Turns_init.binds (ps := ["self", "many", "maps"]) fun _ _ _ _ _ _ us hl => match us, hl with | [_, _, _], _ => rfl
  have F_Turns_len := fun_mk (st := s_Turns_len) l_Turns_len c_Turns_len k_Turns_len
  have b_Turns_len := F_Turns_len.binds (ps := ["self"]) fun _ _ _ _ _ _ us hl => match us, hl with | [_], _ => rfl
  have F_check_signs := fun_mk (st := s_check_signs) l_check_signs c_check_signs k_check_signs
  have b_check_signs := F_check_signs.binds (ps := ["turns", "signs"]) fun _ _ _ _ _ _ us hl => match us, hl with | [_, _], _ => rfl
  have F_begin_of := fun_mk (st := s_begin_of) l_begin_of c_begin_of k_begin_of
  have b_begin_of := F_begin_of.binds (ps := ["turns"]) fun _ _ _ _ _ _ us hl => match us, hl with | [_], _ => rfl
  have F_then := fun_mk (st := s_then) l_then c_then k_then
  have b_then := F_then.binds (ps := ["first", "second"]) fun _ _ _ _ _ _ us hl => match us, hl with | [_, _], _ => rfl
  have F_has_met := fun_mk (st := s_has_met) l_has_met c_has_met k_has_met
  have b_has_met := F_has_met.binds (ps := ["one"]) fun _ _ _ _ _ _ us hl => match us, hl with | [_], _ => rfl
  have F_map_of := fun_mk (st := s_map_of) l_map_of c_map_of k_map_of
  have b_map_of := F_map_of.binds (ps := ["turns", "word"]) fun _ _ _ _ _ _ us hl => match us, hl with | [_, _], _ => rfl
  have F_read_once := fun_mk (st := s_read_once) l_read_once c_read_once k_read_once
  have b_read_once := F_read_once.binds (ps := ["turns", "long", "word"]) fun _ _ _ _ _ _ us hl => match us, hl with | [_, _, _], _ => rfl
  have F_Draw_init := fun_mk (st := s_Draw_init) l_Draw_init c_Draw_init k_Draw_init
  have b_Draw_init := F_Draw_init.binds (ps := ["self", "turns"]) fun _ _ _ _ _ _ us hl => match us, hl with | [_, _], _ => rfl
  have F_Draw_place := fun_mk (st := s_Draw_place) l_Draw_place c_Draw_place k_Draw_place
  have b_Draw_place := F_Draw_place.binds (ps := ["self"]) fun _ _ _ _ _ _ us hl => match us, hl with | [_], _ => rfl
  have F_Draw_used := fun_mk (st := s_Draw_used) l_Draw_used c_Draw_used k_Draw_used
  have b_Draw_used := F_Draw_used.binds (ps := ["self"]) fun _ _ _ _ _ _ us hl => match us, hl with | [_], _ => rfl
  have F_Draw_elder := fun_mk (st := s_Draw_elder) l_Draw_elder c_Draw_elder k_Draw_elder
  have b_Draw_elder := F_Draw_elder.binds (ps := ["self", "sign"]) fun _ _ _ _ _ _ us hl => match us, hl with | [_, _], _ => rfl
  have F_drawn := fun_mk (st := s_drawn) l_drawn c_drawn k_drawn
  have b_drawn := F_drawn.binds (ps := ["turns", "signs"]) fun _ _ _ _ _ _ us hl => match us, hl with | [_, _], _ => rfl
  have F__law_well := fun_mk (st := s__law_well) l__law_well c__law_well k__law_well
  have b__law_well := F__law_well.binds (ps := ["_law_cell"]) fun _ _ _ _ _ _ us hl => match us, hl with | [_], _ => rfl
  have F__law_draw := fun_mk (st := s__law_draw) l__law_draw c__law_draw k__law_draw
  have b__law_draw := F__law_draw.binds (ps := ["_law_well_here", "_law_many"]) fun _ _ _ _ _ _ us hl => match us, hl with | [_, _], _ => rfl
  have F__law_one := fun_mk (st := s__law_one) l__law_one c__law_one k__law_one
  have b__law_one := F__law_one.binds (ps := ["_law_well_here", "_law_some"]) fun _ _ _ _ _ _ us hl => match us, hl with | [_, _], _ => rfl
  have F__law_map := fun_mk (st := s__law_map) l__law_map c__law_map k__law_map
  have b__law_map := F__law_map.binds (ps := ["_law_well_here", "_law_many"]) fun _ _ _ _ _ _ us hl => match us, hl with | [_, _], _ => rfl
  have F__law_turns := fun_mk (st := s__law_turns) l__law_turns c__law_turns k__law_turns
  have b__law_turns := F__law_turns.binds (ps := ["_law_well_here", "_law_most"]) fun _ _ _ _ _ _ us hl => match us, hl with | [_, _], _ => rfl
  have F__law_meeting := fun_mk (st := s__law_meeting) l__law_meeting c__law_meeting k__law_meeting
  have b__law_meeting := F__law_meeting.binds (ps := ["_law_turns_here", "_law_long", "_law_word"]) fun _ _ _ _ _ _ us hl => match us, hl with | [_, _, _], _ => rfl
  have F_law := fun_mk (st := s_law) l_law c_law k_law
  have b_law := F_law.binds (ps := ["_law_script"]) fun _ _ _ _ _ _ us hl => match us, hl with | [_], _ => rfl
  let T : Tx K mg := {
a_is_whole := f_is_whole,
    d_is_whole := _,
    F_is_whole := F_is_whole,
    b_is_whole := b_is_whole,
    g_is_whole := PySem.W.mg_of X G a_is_whole,
    a_is_between := f_is_between,
    d_is_between := _,
    F_is_between := F_is_between,
    b_is_between := b_is_between,
    g_is_between := PySem.W.mg_of X G a_is_between,
    a_is_map := f_is_map,
    d_is_map := _,
    F_is_map := F_is_map,
    b_is_map := b_is_map,
    g_is_map := PySem.W.mg_of X G a_is_map,
    a_Turns_init := f_Turns_init,
    d_Turns_init := _,
    F_Turns_init := F_Turns_init,
    b_Turns_init := b_Turns_init,
    a_Turns_len := f_Turns_len,
    d_Turns_len := _,
    F_Turns_len := F_Turns_len,
    b_Turns_len := b_Turns_len,
    a_check_signs := f_check_signs,
    d_check_signs := _,
    F_check_signs := F_check_signs,
    b_check_signs := b_check_signs,
    g_check_signs := PySem.W.mg_of X G a_check_signs,
    a_begin_of := f_begin_of,
    d_begin_of := _,
    F_begin_of := F_begin_of,
    b_begin_of := b_begin_of,
    g_begin_of := PySem.W.mg_of X G a_begin_of,
    a_then := f_then,
    d_then := _,
    F_then := F_then,
    b_then := b_then,
    g_then := PySem.W.mg_of X G a_then,
    a_has_met := f_has_met,
    d_has_met := _,
    F_has_met := F_has_met,
    b_has_met := b_has_met,
    g_has_met := PySem.W.mg_of X G a_has_met,
    a_map_of := f_map_of,
    d_map_of := _,
    F_map_of := F_map_of,
    b_map_of := b_map_of,
    g_map_of := PySem.W.mg_of X G a_map_of,
    a_read_once := f_read_once,
    d_read_once := _,
    F_read_once := F_read_once,
    b_read_once := b_read_once,
    g_read_once := PySem.W.mg_of X G a_read_once,
    a_Draw_init := f_Draw_init,
    d_Draw_init := _,
    F_Draw_init := F_Draw_init,
    b_Draw_init := b_Draw_init,
    a_Draw_place := f_Draw_place,
    d_Draw_place := _,
    F_Draw_place := F_Draw_place,
    b_Draw_place := b_Draw_place,
    a_Draw_used := f_Draw_used,
    d_Draw_used := _,
    F_Draw_used := F_Draw_used,
    b_Draw_used := b_Draw_used,
    a_Draw_elder := f_Draw_elder,
    d_Draw_elder := _,
    F_Draw_elder := F_Draw_elder,
    b_Draw_elder := b_Draw_elder,
    a_drawn := f_drawn,
    d_drawn := _,
    F_drawn := F_drawn,
    b_drawn := b_drawn,
    g_drawn := PySem.W.mg_of X G a_drawn,
    a__law_well := f__law_well,
    d__law_well := _,
    F__law_well := F__law_well,
    b__law_well := b__law_well,
    g__law_well := PySem.W.mg_of X G a__law_well,
    a__law_draw := f__law_draw,
    d__law_draw := _,
    F__law_draw := F__law_draw,
    b__law_draw := b__law_draw,
    g__law_draw := PySem.W.mg_of X G a__law_draw,
    a__law_one := f__law_one,
    d__law_one := _,
    F__law_one := F__law_one,
    b__law_one := b__law_one,
    g__law_one := PySem.W.mg_of X G a__law_one,
    a__law_map := f__law_map,
    d__law_map := _,
    F__law_map := F__law_map,
    b__law_map := b__law_map,
    g__law_map := PySem.W.mg_of X G a__law_map,
    a__law_turns := f__law_turns,
    d__law_turns := _,
    F__law_turns := F__law_turns,
    b__law_turns := b__law_turns,
    g__law_turns := PySem.W.mg_of X G a__law_turns,
    a__law_meeting := f__law_meeting,
    d__law_meeting := _,
    F__law_meeting := F__law_meeting,
    b__law_meeting := b__law_meeting,
    g__law_meeting := PySem.W.mg_of X G a__law_meeting,
    a_law := f_law,
    d_law := _,
    F_law := F_law,
    b_law := b_law,
    g_law := PySem.W.mg_of X G a_law,
    C_Draw := C_Draw,
    cl_Draw := ⟨pg_Draw, hd_Draw, po_Draw, sa_Draw⟩,
    g_Draw := PySem.W.mg_of X G aC_Draw,
    mk_Draw := ⟨mk_Draw, a_Draw_init, i_Draw_init, kc_Draw⟩,
    C_Turns := C_Turns,
    cl_Turns := ⟨pg_Turns, hd_Turns, po_Turns, sa_Turns⟩,
    g_Turns := PySem.W.mg_of X G aC_Turns,
    mk_Turns := ⟨mk_Turns, a_Turns_init, i_Turns_init, kc_Turns⟩,
    m_Draw_elder := ⟨a_Draw_elder, i_Draw_elder, k_Draw_elder⟩,
    m_Draw_place := ⟨a_Draw_place, i_Draw_place, k_Draw_place⟩,
    m_Draw_used := ⟨a_Draw_used, i_Draw_used, k_Draw_used⟩,
    m_Turns_len := ⟨a_Turns_len, i_Turns_len, k_Turns_len⟩,
    na_Draw_found := na_Draw_found,
    na_Draw_many := na_Draw_many,
    na_Draw_told := na_Draw_told,
    na_Draw_turns := na_Draw_turns,
    na_Turns_many := na_Turns_many,
    na_Turns_maps := na_Turns_maps,
    z_all := PySem.W.mg_none_of X G z_all,
    z_bool := PySem.W.mg_none_of X G z_bool,
    z_int := PySem.W.mg_none_of X G z_int,
    z_isinstance := PySem.W.mg_none_of X G z_isinstance,
    z_len := PySem.W.mg_none_of X G z_len,
    z_list := PySem.W.mg_none_of X G z_list,
    z_range := PySem.W.mg_none_of X G z_range,
    z_set := PySem.W.mg_none_of X G z_set,
    z_tuple := PySem.W.mg_none_of X G z_tuple,
    t_MOST_PLACES := t_MOST_PLACES,
    c_MOST_PLACES := PySem.W.mg_of X G g_MOST_PLACES,
    t_MOST_SIGNS := t_MOST_SIGNS,
    c_MOST_SIGNS := PySem.W.mg_of X G g_MOST_SIGNS }
  refine ⟨_, fun s v => ?bb, fun base _ _ => ok_law T⟩
  case bb => exact .of_eq rfl
theorem walk {l : PySem.W.OpenLaw} {q : Program} {loose : List Str} {XP : (Str → Option Value) → Heap → Prop} {YP : World → Heap → Prop} {d : DefRec} {K : Params → PySem.W.Frag} (hn : l.most = some 63) (hdf : d.params.defaults = [])
    (hY : ∀ (w : World) (h : Heap), YP w h → (K w.params).In h)
    (F : ∀ (w : World) (mg : Str → Option Value) (fa : Addr) (h : Heap), (K w.params).In h → h.Ns mainGlobals mg → mg d.name = some (.ref fa) →
      ∃ fd : FuncData, (∀ (s : Shared) (u : Value), BindsTo s fd ⟨[u], []⟩ [("_law_script", u)]) ∧ ∀ base : Heap, (K w.params).In base → base.Ns mainGlobals mg → FnOk l.prog w (K w.params) mg base CX0 6 fa fd ["_law_script"] (spLaw (K w.params))) :
    PySem.W.WalkO q loose XP YP l.row.toRowW d [] (fun f vs => PySem.call f vs) :=
  L2.walk_of (n := 63) (k := 6) (x := "_law_script") (CX := fun _ => CX0) (sp := fun w => spLaw (K w.params)) hn (by decide) hdf ⟨rfl, by decide, by decide⟩ hY F (fun _ _ a ns hl _ hS => ⟨a, ns, rfl, hS, hl, fun _ => rfl⟩) fun _ _ _ _ _ z => z
end K92
open PySem PySem.W PyProof.Rows
set_option maxRecDepth 100000 in
set_option maxHeartbeats 0 in
theorem PySem.Challenge.cw_elderdraw_k92_whole_once_and_elder_holds : PySem.Challenge.rw_elderdraw_k92_whole_once_and_elder.Holds := by
  w_on; o_law; k_head; (case hw => w_witness2)
  k_fill
  refine K92.walk (l := PySem.Challenge.rw_elderdraw_k92_whole_once_and_elder) rfl rfl (fun w h Y => PySem.W.kIn_of Y) ?F
  case F =>
    intro w mg fa h KX G hmg
    refine' K92.all_mk KX G hmg ?aC_Draw ?aC_Turns ?a_is_whole ?l_is_whole ?c_is_whole ?k_is_whole ?a_is_between ?l_is_between ?c_is_between ?k_is_between ?a_is_map ?l_is_map ?c_is_map ?k_is_map ?a_Turns_init ?i_Turns_init ?l_Turns_init ?c_Turns_init ?k_Turns_init ?a_Turns_len ?i_Turns_len ?l_Turns_len ?c_Turns_len ?k_Turns_len ?a_check_signs ?l_check_signs ?c_check_signs ?k_check_signs ?a_begin_of ?l_begin_of ?c_begin_of ?k_begin_of ?a_then ?l_then ?c_then ?k_then ?a_has_met ?l_has_met ?c_has_met ?k_has_met ?a_map_of ?l_map_of ?c_map_of ?k_map_of ?a_read_once ?l_read_once ?c_read_once ?k_read_once ?a_Draw_init ?i_Draw_init ?l_Draw_init ?c_Draw_init ?k_Draw_init ?a_Draw_place ?i_Draw_place ?l_Draw_place ?c_Draw_place ?k_Draw_place ?a_Draw_used ?i_Draw_used ?l_Draw_used ?c_Draw_used ?k_Draw_used ?a_Draw_elder ?i_Draw_elder ?l_Draw_elder ?c_Draw_elder ?k_Draw_elder ?a_drawn ?l_drawn ?c_drawn ?k_drawn ?a__law_well ?l__law_well ?c__law_well ?k__law_well ?a__law_draw ?l__law_draw ?c__law_draw ?k__law_draw ?a__law_one ?l__law_one ?c__law_one ?k__law_one ?a__law_map ?l__law_map ?c__law_map ?k__law_map ?a__law_turns ?l__law_turns ?c__law_turns ?k__law_turns ?a__law_meeting ?l__law_meeting ?c__law_meeting ?k__law_meeting ?a_law ?l_law ?c_law ?k_law ?pg_Draw ?hd_Draw ?po_Draw ?sa_Draw ?kc_Draw ?mk_Draw ?pg_Turns ?hd_Turns ?po_Turns ?sa_Turns ?kc_Turns ?mk_Turns ?na_Draw_found ?na_Draw_many ?na_Draw_told ?na_Draw_turns ?na_Turns_many ?na_Turns_maps ?z_all ?z_bool ?z_int ?z_isinstance ?z_len ?z_list ?z_range ?z_set ?z_tuple ?g_MOST_PLACES ?g_MOST_SIGNS
    (case aC_Draw => k_is)
    (case aC_Turns => k_is)
    (case a_is_whole => k_is)
    (case l_is_whole => k_is)
    (case c_is_whole => k_is)
    (case k_is_whole => k_is)
    (case a_is_between => k_is)
    (case l_is_between => k_is)
    (case c_is_between => k_is)
    (case k_is_between => k_is)
    (case a_is_map => k_is)
    (case l_is_map => k_is)
    (case c_is_map => k_is)
    (case k_is_map => k_is)
    (case a_Turns_init => k_is)
    (case i_Turns_init => k_is)
    (case l_Turns_init => k_is)
    (case c_Turns_init => k_is)
    (case k_Turns_init => k_is)
    (case a_Turns_len => k_is)
    (case i_Turns_len => k_is)
    (case l_Turns_len => k_is)
    (case c_Turns_len => k_is)
    (case k_Turns_len => k_is)
    (case a_check_signs => k_is)
    (case l_check_signs => k_is)
    (case c_check_signs => k_is)
    (case k_check_signs => k_is)
    (case a_begin_of => k_is)
    (case l_begin_of => k_is)
    (case c_begin_of => k_is)
    (case k_begin_of => k_is)
    (case a_then => k_is)
    (case l_then => k_is)
    (case c_then => k_is)
    (case k_then => k_is)
    (case a_has_met => k_is)
    (case l_has_met => k_is)
    (case c_has_met => k_is)
    (case k_has_met => k_is)
    (case a_map_of => k_is)
    (case l_map_of => k_is)
    (case c_map_of => k_is)
    (case k_map_of => k_is)
    (case a_read_once => k_is)
    (case l_read_once => k_is)
    (case c_read_once => k_is)
    (case k_read_once => k_is)
    (case a_Draw_init => k_is)
    (case i_Draw_init => k_is)
    (case l_Draw_init => k_is)
    (case c_Draw_init => k_is)
    (case k_Draw_init => k_is)
    (case a_Draw_place => k_is)
    (case i_Draw_place => k_is)
    (case l_Draw_place => k_is)
    (case c_Draw_place => k_is)
    (case k_Draw_place => k_is)
    (case a_Draw_used => k_is)
    (case i_Draw_used => k_is)
    (case l_Draw_used => k_is)
    (case c_Draw_used => k_is)
    (case k_Draw_used => k_is)
    (case a_Draw_elder => k_is)
    (case i_Draw_elder => k_is)
    (case l_Draw_elder => k_is)
    (case c_Draw_elder => k_is)
    (case k_Draw_elder => k_is)
    (case a_drawn => k_is)
    (case l_drawn => k_is)
    (case c_drawn => k_is)
    (case k_drawn => k_is)
    (case a__law_well => k_is)
    (case l__law_well => k_is)
    (case c__law_well => k_is)
    (case k__law_well => k_is)
    (case a__law_draw => k_is)
    (case l__law_draw => k_is)
    (case c__law_draw => k_is)
    (case k__law_draw => k_is)
    (case a__law_one => k_is)
    (case l__law_one => k_is)
    (case c__law_one => k_is)
    (case k__law_one => k_is)
    (case a__law_map => k_is)
    (case l__law_map => k_is)
    (case c__law_map => k_is)
    (case k__law_map => k_is)
    (case a__law_turns => k_is)
    (case l__law_turns => k_is)
    (case c__law_turns => k_is)
    (case k__law_turns => k_is)
    (case a__law_meeting => k_is)
    (case l__law_meeting => k_is)
    (case c__law_meeting => k_is)
    (case k__law_meeting => k_is)
    (case a_law => k_is)
    (case l_law => k_is)
    (case c_law => k_is)
    (case k_law => k_is)
    (case pg_Draw => k_is)
    (case hd_Draw => k_is)
    (case po_Draw => k_is)
    (case sa_Draw => k_is)
    (case kc_Draw => k_is)
    (case mk_Draw => k_is)
    (case pg_Turns => k_is)
    (case hd_Turns => k_is)
    (case po_Turns => k_is)
    (case sa_Turns => k_is)
    (case kc_Turns => k_is)
    (case mk_Turns => k_is)
    (case na_Draw_found => k_is)
    (case na_Draw_many => k_is)
    (case na_Draw_told => k_is)
    (case na_Draw_turns => k_is)
    (case na_Turns_many => k_is)
    (case na_Turns_maps => k_is)
    (case z_all => k_is)
    (case z_bool => k_is)
    (case z_int => k_is)
    (case z_isinstance => k_is)
    (case z_len => k_is)
    (case z_list => k_is)
    (case z_range => k_is)
    (case z_set => k_is)
    (case z_tuple => k_is)
    (case g_MOST_PLACES => k_is)
    (case g_MOST_SIGNS => k_is)


