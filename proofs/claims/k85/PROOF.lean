import PyProof.Rows.All
import Wide.All
import OpenK.AllK
import Wide.FinOn
import HandS.ForMost
import HandS.IsInst
import HandS.SetFor
import HandS.Conv
import HandS.Wide
import HandS.OwnEq
import HandS.Style
import HandS.Codes
import HandS.TupMul
import HandS.Walk
import HandS.TupSets
import PyProof.InstNe
import HandS.ForExc
import HandS.ExcInit
import HandS.ExcField
import HandS.Defaults
import HandS.Zip
import HandS.Strs
import HandS.TryMany
import HandS.TryOnly
import PySem.Challenge.RW_elderdraw_k85_whole_orders_turned_about
set_option Elab.async false
set_option linter.all false
set_option maxRecDepth 100000
set_option maxHeartbeats 2000000
namespace El
open PySem PySem.Spec L2

/-! ### heaps -/
def Ex (H H' : Hp) : Prop := ∀ a o, H a = some o → H' a = some o
theorem Ex.refl (H : Hp) : Ex H H := fun _ _ h => h
theorem Ex.trans {H H1 H2 : Hp} (a : Ex H H1) (b : Ex H1 H2) : Ex H H2 := fun x o h => b x o (a x o h)
theorem Ex.new {H : Hp} {p : Addr} {o : HO} (h : H p = none) : Ex H (upd H p o) := fun a u e => by
  rw [upd_ne (ne_of_none e h)]
  exact e
theorem Ex.mut {H H' : Hp} {p : Addr} {o : HO} (e : Ex H H') (h : H p = none) : Ex H (upd H' p o) := fun a u ha => by
  rw [upd_ne (ne_of_none ha h)]
  exact e a u ha
theorem Ex.free {H H' : Hp} (e : Ex H H') {p : Addr} (h : H' p = none) : H p = none := by
  cases q : H p with
  | none => rfl
  | some o => rw [e p o q] at h; cases h
theorem Ex.both {F H : Hp} {p : Addr} {o : HO} (e : Ex F H) : Ex (upd F p o) (upd H p o) := fun a u h => by
  by_cases q : a = p
  · subst q; rw [upd_same] at h ⊢; exact h
  · rw [upd_ne q] at h ⊢; exact e a u h
/-- growth: F the frozen part, H all; M may be changed -/
structure Gr (M : Addr → Prop) (F H F' H' : Hp) : Prop where
  ff : Ex F F'
  fh : Ex F' H'
  hh : ∀ b o, ¬ M b → H b = some o → H' b = some o
  nw : ∀ b, ¬ M b → H b ≠ none → F b = none → F' b = none
  dm : ∀ b, H b ≠ none → H' b ≠ none
abbrev M0 : Addr → Prop := fun _ => False
abbrev M1 (a : Addr) : Addr → Prop := fun b => b = a
theorem Gr.refl {M : Addr → Prop} {F H : Hp} (e : Ex F H) : Gr M F H F H := ⟨Ex.refl F, e, fun _ _ _ h => h, fun _ _ _ h => h, fun _ h => h⟩
theorem Gr.trans {M : Addr → Prop} {F H F1 H1 F2 H2 : Hp} (a : Gr M F H F1 H1) (b : Gr M F1 H1 F2 H2) : Gr M F H F2 H2 :=
  ⟨a.ff.trans b.ff, b.fh, fun c o m h => b.hh c o m (a.hh c o m h), fun c m h n => b.nw c m (a.dm c h) (a.nw c m h n), fun c h => b.dm c (a.dm c h)⟩
theorem Gr.mono {M M' : Addr → Prop} {F H F1 H1 : Hp} (a : Gr M F H F1 H1) (m : ∀ b, M b → M' b) : Gr M' F H F1 H1 :=
  ⟨a.ff, a.fh, fun c o n h => a.hh c o (fun z => n (m c z)) h, fun c n h => a.nw c (fun z => n (m c z)) h, a.dm⟩
theorem Gr.up {M : Addr → Prop} {F H F1 H1 : Hp} (a : Gr M0 F H F1 H1) : Gr M F H F1 H1 := a.mono fun _ z => z.elim
theorem Gr.hx {F H F1 H1 : Hp} (a : Gr M0 F H F1 H1) : Ex H H1 := fun b o h => a.hh b o (fun z => z) h
/-- a new thing, frozen -/
theorem Gr.new {M : Addr → Prop} {F H : Hp} {p : Addr} {o : HO} (e : Ex F H) (h : H p = none) : Gr M F H (upd F p o) (upd H p o) where
  ff := Ex.new (e.free h)
  fh := e.both
  hh := fun b u _ q => Ex.new h b u q
  nw := fun b _ q n => by
    by_cases z : b = p
    · subst z; exact absurd h q
    · rw [upd_ne z]; exact n
  dm := fun b q => by
    by_cases z : b = p
    · subst z; rw [upd_same]; exact fun x => nomatch x
    · rw [upd_ne z]; exact q
/-- a new thing that may change -/
theorem Gr.loc {M : Addr → Prop} {F H : Hp} {p : Addr} {o : HO} (e : Ex F H) (h : H p = none) : Gr M F H F (upd H p o) where
  ff := Ex.refl F
  fh := e.mut (e.free h)
  hh := fun b u _ q => Ex.new h b u q
  nw := fun b _ q n => n
  dm := fun b q => by
    by_cases z : b = p
    · subst z; rw [upd_same]; exact fun x => nomatch x
    · rw [upd_ne z]; exact q
/-- a change of what stands outside of F -/
theorem Gr.set {M : Addr → Prop} {F H : Hp} {p : Addr} {o : HO} (e : Ex F H) (h : F p = none) (m : M p) : Gr M F H F (upd H p o) where
  ff := Ex.refl F
  fh := e.mut h
  hh := fun b u n q => by
    have z : b ≠ p := fun z => n (z ▸ m)
    rw [upd_ne z]; exact q
  nw := fun b _ q n => n
  dm := fun b q => by
    by_cases z : b = p
    · subst z; rw [upd_same]; exact fun x => nomatch x
    · rw [upd_ne z]; exact q
/-- behind an entry (F₀, H₀), a change of what is younger -/
theorem Gr.set' {M : Addr → Prop} {F0 H0 F H : Hp} {p : Addr} {o : HO} (g : Gr M F0 H0 F H) (h : F p = none) (n : H0 p = none ∨ M p) : Gr M F0 H0 F (upd H p o) where
  ff := g.ff
  fh := g.fh.mut h
  hh := fun b u m q => by
    have z : b ≠ p := fun z => by
      subst z
      rcases n with n | n
      · rw [n] at q; cases q
      · exact m n
    rw [upd_ne z]; exact g.hh b u m q
  nw := g.nw
  dm := fun b q => by
    by_cases z : b = p
    · subst z; rw [upd_same]; exact fun x => nomatch x
    · rw [upd_ne z]; exact g.dm b q
/-- a thing that may change is frozen from here on -/
theorem Gr.frz {M : Addr → Prop} {F0 H0 F H : Hp} {p : Addr} {o : HO} (g : Gr M F0 H0 F H) (h : H p = some o) (n : F0 p = none) (n2 : H0 p = none ∨ M p) : Gr M F0 H0 (upd F p o) H where
  ff := fun b u q => by
    rw [upd_ne (ne_of_none q n)]; exact g.ff b u q
  fh := fun b u q => by
    by_cases z : b = p
    · subst z; rw [upd_same] at q; cases q; exact h
    · rw [upd_ne z] at q; exact g.fh b u q
  hh := g.hh
  nw := fun b w q m => by
    have z : b ≠ p := fun z => by
      subst z
      rcases n2 with n2 | n2
      · exact q n2
      · exact w n2
    rw [upd_ne z]; exact g.nw b w q m
  dm := g.dm
theorem Gr.nn {F H F' H' : Hp} {p : Addr} {o : HO} (g : Gr M0 F H F' H') (h : H p = some o) (n : F p = none) : F' p = none := g.nw p (fun z => z) (by rw [h]; exact fun z => nomatch z) n
theorem Ex.frz {F H : Hp} {p : Addr} {o : HO} (e : Ex F H) (h : H p = some o) (n : F p = none) : Ex F (upd F p o) := fun b u q => by
  rw [upd_ne (ne_of_none q n)]; exact q

/-! ### what a value stands for -/
abbrev Rp (α : Type) := Hp → V → α → Prop
class Mn {α : Type} (R : Rp α) : Prop where
  mono : ∀ {H H' : Hp} {v : V} {x : α}, Ex H H' → R H v x → R H' v x
def rInt : Rp Int := fun _ v i => v = .int i
def rNat : Rp Nat := fun _ v i => v = .int (i : Int)
def rBl : Rp Bool := fun _ v i => v = .bl i
def rStr : Rp Str := fun _ v i => v = .str i
def rNon : Rp Unit := fun _ v _ => v = .non
def rLst {α : Type} (R : Rp α) : Rp (List α) := fun H v xs => ∃ a vs, v = .ref a ∧ H a = some (.lst vs) ∧ Paired (R H) vs xs
def rTup {α : Type} (R : Rp α) : Rp (List α) := fun H v xs => ∃ a vs, v = .ref a ∧ H a = some (.tup vs) ∧ Paired (R H) vs xs
def rPr {α β : Type} (R : Rp α) (S : Rp β) : Rp (α × β) := fun H v p => ∃ a x y, v = .ref a ∧ H a = some (.tup [x, y]) ∧ R H x p.1 ∧ S H y p.2
def rOpt {α : Type} (R : Rp α) : Rp (Option α) := fun H v x => match x with
  | none => v = .non
  | some y => R H v y
instance : Mn rInt := ⟨fun _ h => h⟩
instance : Mn rNat := ⟨fun _ h => h⟩
instance : Mn rBl := ⟨fun _ h => h⟩
instance : Mn rStr := ⟨fun _ h => h⟩
instance : Mn rNon := ⟨fun _ h => h⟩
theorem Paired.up {α : Type} {R : Rp α} [m : Mn R] {H H' : Hp} (e : Ex H H') {vs : List V} {xs : List α} (h : Paired (R H) vs xs) : Paired (R H') vs xs := L2.Paired.mapP h fun _ _ q => m.mono e q
instance {α : Type} {R : Rp α} [Mn R] : Mn (rLst R) := ⟨fun e ⟨a, vs, h1, h2, h3⟩ => ⟨a, vs, h1, e _ _ h2, Paired.up e h3⟩⟩
instance {α : Type} {R : Rp α} [Mn R] : Mn (rTup R) := ⟨fun e ⟨a, vs, h1, h2, h3⟩ => ⟨a, vs, h1, e _ _ h2, Paired.up e h3⟩⟩
instance {α β : Type} {R : Rp α} {S : Rp β} [m : Mn R] [n : Mn S] : Mn (rPr R S) := ⟨fun e ⟨a, x, y, h1, h2, h3, h4⟩ => ⟨a, x, y, h1, e _ _ h2, m.mono e h3, n.mono e h4⟩⟩
instance {α : Type} {R : Rp α} [m : Mn R] : Mn (rOpt R) := ⟨fun {H H' v x} e h => by
  cases x with
  | none => exact h
  | some y => exact m.mono e h⟩
theorem Paired.get {α β : Type} {F : α → β → Prop} : ∀ {as : List α} {bs : List β} {i : Nat} {b : β}, Paired F as bs → bs[i]? = some b → ∃ a, as[i]? = some a ∧ F a b
  | _, _, _, _, .nil, e => by simp at e
  | _, _, 0, _, .cons r _, e => by simp at e; subst e; exact ⟨_, rfl, r⟩
  | _, _, i + 1, _, .cons _ t, e => by
    obtain ⟨a, h1, h2⟩ := Paired.get t (i := i) (by simpa using e)
    exact ⟨a, by simpa using h1, h2⟩
theorem Paired.getL {α β : Type} {F : α → β → Prop} : ∀ {as : List α} {bs : List β} {i : Nat} {a : α}, Paired F as bs → as[i]? = some a → ∃ b, bs[i]? = some b ∧ F a b
  | _, _, _, _, .nil, e => by simp at e
  | _, _, 0, _, .cons r _, e => by simp at e; subst e; exact ⟨_, rfl, r⟩
  | _, _, i + 1, _, .cons _ t, e => by
    obtain ⟨a, h1, h2⟩ := Paired.getL t (i := i) (by simpa using e)
    exact ⟨a, by simpa using h1, h2⟩
theorem Paired.app {α β : Type} {F : α → β → Prop} : ∀ {as cs : List α} {bs ds : List β}, Paired F as bs → Paired F cs ds → Paired F (as ++ cs) (bs ++ ds)
  | _, _, _, _, .nil, h => h
  | _, _, _, _, .cons r t, h => .cons r (Paired.app t h)
theorem Paired.take {α β : Type} {F : α → β → Prop} : ∀ {as : List α} {bs : List β} (n : Nat), Paired F as bs → Paired F (as.take n) (bs.take n)
  | _, _, 0, _ => .nil
  | _, _, _ + 1, .nil => .nil
  | _, _, n + 1, .cons r t => .cons r (Paired.take n t)
theorem Paired.drop {α β : Type} {F : α → β → Prop} : ∀ {as : List α} {bs : List β} (n : Nat), Paired F as bs → Paired F (as.drop n) (bs.drop n)
  | _, _, 0, h => h
  | _, _, _ + 1, .nil => .nil
  | _, _, n + 1, .cons r t => Paired.drop n t
theorem Paired.rev {α β : Type} {F : α → β → Prop} : ∀ {as : List α} {bs : List β}, Paired F as bs → Paired F as.reverse bs.reverse
  | _, _, .nil => .nil
  | _, _, .cons r t => by
    rw [List.reverse_cons, List.reverse_cons]
    exact Paired.app (Paired.rev t) (.cons r .nil)
theorem Paired.set {α β : Type} {F : α → β → Prop} {a : α} {b : β} (r : F a b) : ∀ {as : List α} {bs : List β} (n : Nat), Paired F as bs → Paired F (as.set n a) (bs.set n b)
  | _, _, _, .nil => .nil
  | _, _, 0, .cons _ t => .cons r t
  | _, _, n + 1, .cons q t => .cons q (Paired.set r n t)
/-- ints as they stand -/
theorem ints_paired {H : Hp} : ∀ {vs : List V} {ns : List Int}, Paired (rInt H) vs ns → vs = ns.map V.int
  | _, _, .nil => rfl
  | _, _, .cons r t => by rw [List.map_cons, ints_paired t, show _ = _ from r]
theorem paired_ints {H : Hp} : ∀ ns : List Int, Paired (rInt H) (ns.map V.int) ns
  | [] => .nil
  | n :: ns => .cons rfl (paired_ints ns)
theorem nats_paired {H : Hp} : ∀ {vs : List V} {ns : List Nat}, Paired (rNat H) vs ns → vs = (ns.map fun n : Nat => (n : Int)).map V.int
  | _, _, .nil => rfl
  | _, _, .cons r t => by rw [List.map_cons, List.map_cons, ← nats_paired t, show _ = _ from r]
theorem bls_paired {H : Hp} : ∀ {vs : List V} {ns : List Bool}, Paired (rBl H) vs ns → vs = ns.map V.bl
  | _, _, .nil => rfl
  | _, _, .cons r t => by rw [List.map_cons, ← bls_paired t, show _ = _ from r]
theorem strs_paired {H : Hp} : ∀ {vs : List V} {ns : List Str}, Paired (rStr H) vs ns → vs = ns.map V.str
  | _, _, .nil => rfl
  | _, _, .cons r t => by rw [List.map_cons, ← strs_paired t, show _ = _ from r]

/-! ### what evaluates to what -/
def Ev {α : Type} (R : Rp α) (te : TE) (σ : St) (F H : Hp) (x : α) : Prop :=
  ∀ F1 H1, Gr M0 F H F1 H1 → ∀ Q : VK, (∀ v F2 H2, Gr M0 F1 H1 F2 H2 → R F2 v x → Q v H2) → te σ H1 Q
def EvT (tt : TT) (σ : St) (F H : Hp) (b : Bool) : Prop :=
  ∀ F1 H1, Gr M0 F H F1 H1 → ∀ Q : Bool → Hp → Prop, (∀ F2 H2, Gr M0 F1 H1 F2 H2 → Q b H2) → tt σ H1 Q
def EvA (ta : TA) (σ : St) (F H : Hp) (P : Hp → List V → Prop) : Prop :=
  ∀ F1 H1, Gr M0 F H F1 H1 → ∀ Q : List V → Hp → Prop, (∀ vs F2 H2, Gr M0 F1 H1 F2 H2 → P F2 vs → Q vs H2) → ta σ H1 Q
section
variable {K : PySem.W.Frag} {σ : St} {F H F' H' : Hp} {ta tb tc te : TE} {t u : TT} {α β γ δ ε : Type} {R : Rp α} {S : Rp β} {T : Rp γ} {x : α} {y : β} {z : γ}
theorem Ev.mono (g : Gr M0 F H F' H') (h : Ev R te σ F H x) : Ev R te σ F' H' x := fun F1 H1 g1 Q q => h F1 H1 (g.trans g1) Q q
theorem EvT.mono {b : Bool} (g : Gr M0 F H F' H') (h : EvT t σ F H b) : EvT t σ F' H' b := fun F1 H1 g1 Q q => h F1 H1 (g.trans g1) Q q
theorem Ev.is {x' : α} (h : Ev R te σ F H x) (e : x = x') : Ev R te σ F H x' := e ▸ h
theorem EvT.is {b b' : Bool} (h : EvT t σ F H b) (e : b = b') : EvT t σ F H b' := e ▸ h
/-- another reading of the value -/
theorem Ev.as (h : Ev R te σ F H x) (c : ∀ F v, R F v x → S F v y) : Ev S te σ F H y := fun F1 H1 g Q q => h F1 H1 g Q fun v F2 H2 g2 r => q v F2 H2 g2 (c F2 v r)
theorem Ev.nat {n : Nat} (h : Ev rNat te σ F H n) : Ev rInt te σ F H (n : Int) := h
theorem Ev.toNat {n : Nat} (h : Ev rInt te σ F H (n : Int)) : Ev rNat te σ F H n := h
theorem ev_var {i : Nat} {v : V} (h : σ[i]? = some (some v)) (r : R F v x) (m : Mn R := by infer_instance) : Ev R (tVar i) σ F H x := fun F1 H1 g Q q => ⟨v, h, q v F1 H1 (.refl g.fh) (m.mono g.ff r)⟩
theorem ev_int {i : Int} : Ev rInt (tC (.int i)) σ F H i := fun F1 H1 g Q q => q _ F1 H1 (.refl g.fh) rfl
theorem ev_bl {i : Bool} : Ev rBl (tC (.bl i)) σ F H i := fun F1 H1 g Q q => q _ F1 H1 (.refl g.fh) rfl
theorem ev_str {i : Str} : Ev rStr (tC (.str i)) σ F H i := fun F1 H1 g Q q => q _ F1 H1 (.refl g.fh) rfl
theorem ev_non : Ev rNon (tC .non) σ F H () := fun F1 H1 g Q q => q _ F1 H1 (.refl g.fh) rfl
theorem ev_noneO : Ev (rOpt R) (tC .non) σ F H none := fun F1 H1 g Q q => q _ F1 H1 (.refl g.fh) rfl
theorem ev_someO (h : Ev R te σ F H x) : Ev (rOpt R) te σ F H (some x) := h
/-- operators of two ints -/
theorem ev_I0 {g : Int → Int → V} {i j : Int} (ha : Ev rInt ta σ F H i) (hb : Ev rInt tb σ F H j) (hz : ∀ F, R F (g i j) x) : Ev R (tOp (rI0 g) ta tb) σ F H x := fun F1 H1 g1 Q q =>
  ha F1 H1 g1 _ fun v F2 H2 g2 r => hb F2 H2 (g1.trans g2) _ fun w F3 H3 g3 r2 => ⟨i, j, r, r2, q _ F3 H3 (g2.trans g3) (hz F3)⟩
theorem ev_I {C : Int → Int → Prop} {g : Int → Int → V} {i j : Int} (ha : Ev rInt ta σ F H i) (hb : Ev rInt tb σ F H j) (hc : C i j) (hz : ∀ F, R F (g i j) x) : Ev R (tOp (rI C g) ta tb) σ F H x := fun F1 H1 g1 Q q =>
  ha F1 H1 g1 _ fun v F2 H2 g2 r => hb F2 H2 (g1.trans g2) _ fun w F3 H3 g3 r2 => ⟨i, j, r, r2, hc, q _ F3 H3 (g2.trans g3) (hz F3)⟩
variable {i j : Int}
theorem ev_add (ha : Ev rInt ta σ F H i) (hb : Ev rInt tb σ F H j) : Ev rInt (tOp (rI0 fun i j => .int (i + j)) ta tb) σ F H (i + j) := ev_I0 ha hb fun _ => rfl
theorem ev_sub (ha : Ev rInt ta σ F H i) (hb : Ev rInt tb σ F H j) : Ev rInt (tOp (rI0 fun i j => .int (i - j)) ta tb) σ F H (i - j) := ev_I0 ha hb fun _ => rfl
theorem ev_mul (ha : Ev rInt ta σ F H i) (hb : Ev rInt tb σ F H j) (hc : CMul i j) : Ev rInt (tOp (rI CMul fun i j => .int (i * j)) ta tb) σ F H (i * j) := ev_I ha hb hc fun _ => rfl
theorem ev_mulW (ha : Ev rInt ta σ F H i) (hb : Ev rInt tb σ F H j) (hc : CMulW i j) : Ev rInt (tOp (rI CMulW fun i j => .int (i * j)) ta tb) σ F H (i * j) := ev_I ha hb hc fun _ => rfl
theorem ev_fdiv (ha : Ev rInt ta σ F H i) (hb : Ev rInt tb σ F H j) (hc : CDiv i j) : Ev rInt (tOp (rI CDiv fun i j => .int (i / j)) ta tb) σ F H (i / j) := ev_I ha hb hc fun _ => rfl
theorem ev_mod (ha : Ev rInt ta σ F H i) (hb : Ev rInt tb σ F H j) (hc : 0 < j) : Ev rInt (tOp (rI (fun _ j => 0 < j) fun i j => .int (i % j)) ta tb) σ F H (i % j) := ev_I ha hb hc fun _ => rfl
theorem ev_pow (ha : Ev rInt ta σ F H i) (hb : Ev rInt tb σ F H j) (hc : CPow i j) : Ev rInt (tOp (rI CPow fun i j => .int (i ^ j.toNat)) ta tb) σ F H (i ^ j.toNat) := ev_I ha hb hc fun _ => rfl
theorem ev_lt (ha : Ev rInt ta σ F H i) (hb : Ev rInt tb σ F H j) : Ev rBl (tOp (rI0 fun i j => .bl (decide (i < j))) ta tb) σ F H (decide (i < j)) := ev_I0 ha hb fun _ => rfl
theorem ev_le (ha : Ev rInt ta σ F H i) (hb : Ev rInt tb σ F H j) : Ev rBl (tOp (rI0 fun i j => .bl (decide (i ≤ j))) ta tb) σ F H (decide (i ≤ j)) := ev_I0 ha hb fun _ => rfl
theorem ev_gt (ha : Ev rInt ta σ F H i) (hb : Ev rInt tb σ F H j) : Ev rBl (tOp (rI0 fun i j => .bl (decide (j < i))) ta tb) σ F H (decide (j < i)) := ev_I0 ha hb fun _ => rfl
theorem ev_ge (ha : Ev rInt ta σ F H i) (hb : Ev rInt tb σ F H j) : Ev rBl (tOp (rI0 fun i j => .bl (decide (j ≤ i))) ta tb) σ F H (decide (j ≤ i)) := ev_I0 ha hb fun _ => rfl
theorem ev_neg (ha : Ev rInt ta σ F H i) : Ev rInt (tUn (rU fun i => .int (-i)) ta) σ F H (-i) := fun F1 H1 g1 Q q => ha F1 H1 g1 _ fun v F2 H2 g2 r => ⟨i, r, q _ F2 H2 g2 rfl⟩
theorem ev_eqI (ha : Ev rInt ta σ F H i) (hb : Ev rInt tb σ F H j) : Ev rBl (tOp rEq ta tb) σ F H (decide (i = j)) := fun F1 H1 g1 Q q =>
  ha F1 H1 g1 _ fun v F2 H2 g2 r => hb F2 H2 (g1.trans g2) _ fun w F3 H3 g3 r2 => by
    cases (show v = V.int i from r)
    cases (show w = V.int j from r2)
    refine ⟨rfl, ?_⟩
    have e : decide (V.int i = V.int j) = decide (i = j) := by simp
    rw [e]
    exact q _ F3 H3 (g2.trans g3) rfl
theorem ev_neI (ha : Ev rInt ta σ F H i) (hb : Ev rInt tb σ F H j) : Ev rBl (tOp rNe ta tb) σ F H (!decide (i = j)) := fun F1 H1 g1 Q q =>
  ha F1 H1 g1 _ fun v F2 H2 g2 r => hb F2 H2 (g1.trans g2) _ fun w F3 H3 g3 r2 => by
    cases (show v = V.int i from r)
    cases (show w = V.int j from r2)
    refine ⟨rfl, ?_⟩
    have e : decide (V.int i = V.int j) = decide (i = j) := by simp
    rw [e]
    exact q _ F3 H3 (g2.trans g3) rfl
theorem ev_eqS {a b : Str} (ha : Ev rStr ta σ F H a) (hb : Ev rStr tb σ F H b) : Ev rBl (tOp rEq ta tb) σ F H (decide (a = b)) := fun F1 H1 g1 Q q =>
  ha F1 H1 g1 _ fun v F2 H2 g2 r => hb F2 H2 (g1.trans g2) _ fun w F3 H3 g3 r2 => by
    cases (show v = V.str a from r)
    cases (show w = V.str b from r2)
    refine ⟨rfl, ?_⟩
    have e : decide (V.str a = V.str b) = decide (a = b) := by simp
    rw [e]
    exact q _ F3 H3 (g2.trans g3) rfl
theorem ev_neS {a b : Str} (ha : Ev rStr ta σ F H a) (hb : Ev rStr tb σ F H b) : Ev rBl (tOp rNe ta tb) σ F H (!decide (a = b)) := fun F1 H1 g1 Q q =>
  ha F1 H1 g1 _ fun v F2 H2 g2 r => hb F2 H2 (g1.trans g2) _ fun w F3 H3 g3 r2 => by
    cases (show v = V.str a from r)
    cases (show w = V.str b from r2)
    refine ⟨rfl, ?_⟩
    have e : decide (V.str a = V.str b) = decide (a = b) := by simp
    rw [e]
    exact q _ F3 H3 (g2.trans g3) rfl
/-- is None -/
def rIsN : R2 := fun x y H Q => y = .non ∧ Q (.bl (decide (x = .non))) H
def rNotN : R2 := fun x y H Q => y = .non ∧ Q (.bl (!decide (x = .non))) H
theorem op_isN1 {X : Cx} : OpR X (compareOp .Is) rIsN := op_isN
theorem op_notN1 {X : Cx} : OpR X (compareOp .IsNot) rNotN := op_notN
class NotN {α : Type} (R : Rp α) : Prop where
  nn : ∀ {F v x}, R F v x → v ≠ .non
instance : NotN rInt := ⟨fun h e => by rw [show _ = _ from h] at e; cases e⟩
instance : NotN rNat := ⟨fun h e => by rw [show _ = _ from h] at e; cases e⟩
instance : NotN rStr := ⟨fun h e => by rw [show _ = _ from h] at e; cases e⟩
instance : NotN rBl := ⟨fun h e => by rw [show _ = _ from h] at e; cases e⟩
instance {α : Type} {R : Rp α} : NotN (rLst R) := ⟨fun ⟨_, _, h, _⟩ e => by rw [h] at e; cases e⟩
instance {α : Type} {R : Rp α} : NotN (rTup R) := ⟨fun ⟨_, _, h, _⟩ e => by rw [h] at e; cases e⟩
instance {α β : Type} {R : Rp α} {S : Rp β} : NotN (rPr R S) := ⟨fun ⟨_, _, _, h, _⟩ e => by rw [h] at e; cases e⟩
theorem opt_isNone {R : Rp α} [n : NotN R] {v : V} {x : Option α} (h : rOpt R F v x) : decide (v = .non) = x.isNone := by
  cases x with
  | none => exact decide_eq_true h
  | some y => exact decide_eq_false (n.nn h)
theorem ev_isN {x : Option α} (ha : Ev (rOpt R) ta σ F H x) (n : NotN R := by infer_instance) : Ev rBl (tOp rIsN ta (tC .non)) σ F H x.isNone := fun F1 H1 g1 Q q =>
  ha F1 H1 g1 _ fun v F2 H2 g2 r => ⟨rfl, by rw [opt_isNone r]; exact q _ F2 H2 g2 rfl⟩
theorem ev_notN {x : Option α} (ha : Ev (rOpt R) ta σ F H x) (n : NotN R := by infer_instance) : Ev rBl (tOp rNotN ta (tC .non)) σ F H x.isSome := fun F1 H1 g1 Q q =>
  ha F1 H1 g1 _ fun v F2 H2 g2 r => ⟨rfl, by rw [opt_isNone r]; exact q _ F2 H2 g2 (by cases x <;> rfl)⟩
/-! tests -/
theorem et_test {b : Bool} (h : Ev rBl te σ F H b) : EvT (tTest te) σ F H b := fun F1 H1 g Q q => h F1 H1 g _ fun v F2 H2 g2 r => ⟨b, r, q F2 H2 g2⟩
theorem et_B {b : Bool} (h : Ev rBl te σ F H b) : EvT (tB te) σ F H b := fun F1 H1 g Q q => h F1 H1 g _ fun v F2 H2 g2 r => ⟨b, r, q F2 H2 g2⟩
theorem et_and {a b : Bool} (h1 : EvT t σ F H a) (h2 : a = true → EvT u σ F H b) : EvT (tAnd t u) σ F H (a && b) := fun F1 H1 g Q q => h1 F1 H1 g _ fun F2 H2 g2 => by
  cases a with
  | true => exact h2 rfl F2 H2 (g.trans g2) Q fun F3 H3 g3 => q F3 H3 (g2.trans g3)
  | false => exact q F2 H2 g2
theorem et_or {a b : Bool} (h1 : EvT t σ F H a) (h2 : a = false → EvT u σ F H b) : EvT (tOr t u) σ F H (a || b) := fun F1 H1 g Q q => h1 F1 H1 g _ fun F2 H2 g2 => by
  cases a with
  | true => exact q F2 H2 g2
  | false => exact h2 rfl F2 H2 (g.trans g2) Q fun F3 H3 g3 => q F3 H3 (g2.trans g3)
theorem et_not {a : Bool} (h1 : EvT t σ F H a) : EvT (tNot t) σ F H (!a) := fun F1 H1 g Q q => h1 F1 H1 g _ fun F2 H2 g2 => q F2 H2 g2
theorem ev_andV {a b : Bool} (h1 : Ev rBl ta σ F H a) (h2 : a = true → Ev rBl tb σ F H b) : Ev rBl (tAndV ta tb) σ F H (a && b) := fun F1 H1 g Q q => h1 F1 H1 g _ fun v F2 H2 g2 r => ⟨a, r, by
  cases a with
  | true => exact h2 rfl F2 H2 (g.trans g2) Q fun w F3 H3 g3 => q w F3 H3 (g2.trans g3)
  | false => exact q _ F2 H2 g2 rfl⟩
theorem ev_orV {a b : Bool} (h1 : Ev rBl ta σ F H a) (h2 : a = false → Ev rBl tb σ F H b) : Ev rBl (tOrV ta tb) σ F H (a || b) := fun F1 H1 g Q q => h1 F1 H1 g _ fun v F2 H2 g2 r => ⟨a, r, by
  cases a with
  | true => exact q _ F2 H2 g2 rfl
  | false => exact h2 rfl F2 H2 (g.trans g2) Q fun w F3 H3 g3 => q w F3 H3 (g2.trans g3)⟩
theorem ev_notV {a : Bool} (h1 : Ev rBl ta σ F H a) : Ev rBl (tNotV ta) σ F H (!a) := fun F1 H1 g Q q => h1 F1 H1 g _ fun v F2 H2 g2 r => ⟨a, r, q _ F2 H2 g2 rfl⟩
theorem ev_if {b : Bool} {x1 x2 : α} (h : EvT t σ F H b) (h1 : b = true → Ev R ta σ F H x1) (h2 : b = false → Ev R tb σ F H x2) : Ev R (tIf t ta tb) σ F H (if b = true then x1 else x2) := fun F1 H1 g Q q => h F1 H1 g _ fun F2 H2 g2 => by
  cases b with
  | true => exact h1 rfl F2 H2 (g.trans g2) Q fun w F3 H3 g3 r => q w F3 H3 (g2.trans g3) (by simpa using r)
  | false => exact h2 rfl F2 H2 (g.trans g2) Q fun w F3 H3 g3 r => q w F3 H3 (g2.trans g3) (by simpa using r)
theorem ev_chain {i j k : Int} {p p' : Int → Int → Bool} (ha : Ev rInt ta σ F H i) (hb : Ev rInt tb σ F H j) (hc : Ev rInt tc σ F H k) :
    Ev rBl (tChain (rI0 fun i j => .bl (p i j)) (rI0 fun i j => .bl (p' i j)) ta tb tc) σ F H (p i j && p' j k) := fun F1 H1 g1 Q q =>
  ha F1 H1 g1 _ fun v F2 H2 g2 r => hb F2 H2 (g1.trans g2) _ fun w F3 H3 g3 r2 => ⟨i, j, r, r2, p i j, rfl, by
    cases e : p i j with
    | true => exact hc F3 H3 ((g1.trans g2).trans g3) _ fun w2 F4 H4 g4 r3 => ⟨j, k, r2, r3, q _ F4 H4 ((g2.trans g3).trans g4) (by rw [e, Bool.true_and]; rfl)⟩
    | false => exact q _ F3 H3 (g2.trans g3) (by rw [e, Bool.false_and]; rfl)⟩
/-! arguments -/
theorem ea_nil : EvA tNil σ F H (fun _ vs => vs = []) := fun F1 H1 g Q q => q _ F1 H1 (.refl g.fh) rfl
theorem ea_cons {tr : TA} {P : Hp → List V → Prop} (h : Ev R te σ F H x) (hr : EvA tr σ F H P) (m : Mn R := by infer_instance) : EvA (tCons te tr) σ F H (fun F vs => ∃ v ws, vs = v :: ws ∧ R F v x ∧ P F ws) := fun F1 H1 g Q q =>
  h F1 H1 g _ fun v F2 H2 g2 r => hr F2 H2 (g.trans g2) _ fun ws F3 H3 g3 p => q _ F3 H3 (g2.trans g3) ⟨v, ws, rfl, m.mono g3.ff r, p⟩
end
end El

set_option Elab.async false
set_option linter.all false
set_option maxRecDepth 100000
set_option maxHeartbeats 2000000
namespace El
open PySem PySem.Spec L2
/-- a reference as it stands -/
def rRef : Rp Addr := fun _ v a => v = .ref a
def rTy : Rp String := fun _ v a => v = .ty a
instance : Mn rRef := ⟨fun _ h => h⟩
instance : Mn rTy := ⟨fun _ h => h⟩
section
variable {K : PySem.W.Frag} {σ : St} {F H F' H' : Hp} {ta tb tc te : TE} {t u : TT} {α β γ δ ε : Type} {R : Rp α} {S : Rp β} {T : Rp γ} {x : α} {y : β} {z : γ} {xs : List α} {i j : Int}
theorem ev_ref {a : Addr} : Ev rRef (tC (.ref a)) σ F H a := fun F1 H1 g Q q => q _ F1 H1 (.refl g.fh) rfl
theorem ev_ty {n : String} : Ev rTy (tC (.ty n)) σ F H n := fun F1 H1 g Q q => q _ F1 H1 (.refl g.fh) rfl

/-! ### index, slice, length -/
theorem atI_paired {f : V → α → Prop} {vs : List V} {xs : List α} {i : Int} {x : α} (p : Paired f vs xs) (h : atI xs i = some x) : ∃ v, atI vs i = some v ∧ f v x := by
  unfold atI at h ⊢
  rw [p.length]
  cases e : ixN xs.length i with
  | none => rw [e] at h; cases h
  | some j =>
    rw [e] at h
    exact El.Paired.get p h
theorem atI_natL {xs : List α} {n : Nat} {x : α} (h : xs[n]? = some x) : atI xs (n : Int) = some x := by
  have hl : n < xs.length := (List.getElem?_eq_some_iff.mp h).1
  unfold atI ixN
  rw [if_pos (by omega), if_pos (by omega)]
  exact h
theorem ev_ixL (ha : Ev (rLst R) ta σ F H xs) (hb : Ev rInt tb σ F H i) (h : atI xs i = some x) (m : Mn R := by infer_instance) : Ev R (tOp (rIxL K) ta tb) σ F H x := fun F1 H1 g1 Q q =>
  ha F1 H1 g1 _ fun v F2 H2 g2 ⟨a, vs, e, hl, p⟩ => hb F2 H2 (g1.trans g2) _ fun w F3 H3 g3 r2 => by
    obtain ⟨y, hy, ry⟩ := atI_paired p h
    exact ⟨a, vs, i, y, e, r2, SqL.of (g3.fh _ _ (g3.ff _ _ hl)), hy, q y F3 H3 (g2.trans g3) (m.mono g3.ff ry)⟩
theorem ev_ixT (ha : Ev (rTup R) ta σ F H xs) (hb : Ev rInt tb σ F H i) (h : atI xs i = some x) (m : Mn R := by infer_instance) : Ev R (tOp (rIxT K) ta tb) σ F H x := fun F1 H1 g1 Q q =>
  ha F1 H1 g1 _ fun v F2 H2 g2 ⟨a, vs, e, hl, p⟩ => hb F2 H2 (g1.trans g2) _ fun w F3 H3 g3 r2 => by
    obtain ⟨y, hy, ry⟩ := atI_paired p h
    exact ⟨a, vs, i, y, e, r2, SqT.of (g3.fh _ _ (g3.ff _ _ hl)), hy, q y F3 H3 (g2.trans g3) (m.mono g3.ff ry)⟩
theorem ev_fst {p : α × β} (ha : Ev (rPr R S) ta σ F H p) (m : Mn R := by infer_instance) : Ev R (tOp (rIxT K) ta (tC (.int 0))) σ F H p.1 := fun F1 H1 g1 Q q =>
  ha F1 H1 g1 _ fun v F2 H2 g2 ⟨a, u, w, e, hl, r1, r2⟩ => ⟨a, [u, w], 0, u, e, rfl, SqT.of (g2.fh _ _ hl), rfl, q u F2 H2 g2 r1⟩
theorem ev_snd {p : α × β} (ha : Ev (rPr R S) ta σ F H p) (m : Mn S := by infer_instance) : Ev S (tOp (rIxT K) ta (tC (.int 1))) σ F H p.2 := fun F1 H1 g1 Q q =>
  ha F1 H1 g1 _ fun v F2 H2 g2 ⟨a, u, w, e, hl, r1, r2⟩ => ⟨a, [u, w], 1, w, e, rfl, SqT.of (g2.fh _ _ hl), rfl, q w F2 H2 g2 r2⟩
/-- a list that may change, as it stands -/
theorem ev_ixM {a : Addr} {vs : List V} {v : V} (ha : Ev rRef ta σ F H a) (hb : Ev rInt tb σ F H i) (hl : H a = some (.lst vs)) (h : atI vs i = some v) (r : R F v x) (m : Mn R := by infer_instance) : Ev R (tOp (rIxL K) ta tb) σ F H x := fun F1 H1 g1 Q q =>
  ha F1 H1 g1 _ fun w F2 H2 g2 e => hb F2 H2 (g1.trans g2) _ fun w2 F3 H3 g3 r2 =>
    ⟨a, vs, i, v, e, r2, SqL.of (g3.hx _ _ (g2.hx _ _ (g1.hx _ _ hl))), h, q v F3 H3 (g2.trans g3) (m.mono ((g1.ff.trans g2.ff).trans g3.ff) r)⟩
def cut (xs : List α) (lo hi : Option Int) : List α := (xs.drop (HT.sIx xs.length 0 lo)).take (HT.sIx xs.length xs.length hi - HT.sIx xs.length 0 lo)
theorem cut_paired {f : V → α → Prop} {vs : List V} {xs : List α} {lo hi : Option Int} (p : Paired f vs xs) : Paired f (cutV vs lo hi) (cut xs lo hi) := by
  unfold cutV cut
  rw [p.length]
  exact Paired.take _ (Paired.drop _ p)
theorem cut_to {n : Nat} : cut xs none (some (n : Int)) = xs.take n := by
  unfold cut
  rw [HT.sIx_none, HT.sIx_nat, List.drop_zero, Nat.sub_zero]
  by_cases h : n ≤ xs.length
  · rw [Nat.min_eq_left h]
  · rw [Nat.min_eq_right (by omega), List.take_of_length_le (Nat.le_refl _), List.take_of_length_le (by omega)]
theorem cut_from {n : Nat} : cut xs (some (n : Int)) none = xs.drop n := by
  unfold cut
  rw [HT.sIx_none, HT.sIx_nat]
  by_cases h : n ≤ xs.length
  · rw [Nat.min_eq_left h]
    exact List.take_of_length_le (by rw [List.length_drop]; exact Nat.le_refl _)
  · rw [Nat.min_eq_right (by omega), List.drop_of_length_le (Nat.le_refl _), List.drop_of_length_le (by omega), List.take_nil]
theorem cut_mid {n k : Nat} (h : n ≤ k) : cut xs (some (n : Int)) (some (k : Int)) = (xs.drop n).take (k - n) := by
  unfold cut
  rw [HT.sIx_nat, HT.sIx_nat]
  by_cases h1 : n ≤ xs.length
  · rw [Nat.min_eq_left h1]
    by_cases h2 : k ≤ xs.length
    · rw [Nat.min_eq_left h2]
    · rw [Nat.min_eq_right (by omega), List.take_of_length_le (by rw [List.length_drop]; exact Nat.le_refl _), List.take_of_length_le (by rw [List.length_drop]; omega)]
  · rw [show min n xs.length = xs.length by omega, List.drop_of_length_le (Nat.le_refl _), List.drop_of_length_le (show xs.length ≤ n by omega), List.take_nil, List.take_nil]
def EvO (to : TO) (σ : St) (F H : Hp) (o : Option Int) : Prop :=
  ∀ F1 H1, Gr M0 F H F1 H1 → ∀ Q : Option Int → Hp → Prop, (∀ F2 H2, Gr M0 F1 H1 F2 H2 → Q o H2) → to σ H1 Q
theorem eo_none : EvO tNoPart σ F H none := fun F1 H1 g Q q => q F1 H1 (.refl g.fh)
theorem eo_some (h : Ev rInt te σ F H i) : EvO (tPart te) σ F H (some i) := fun F1 H1 g Q q => h F1 H1 g _ fun v F2 H2 g2 r => ⟨i, r, q F2 H2 g2⟩
theorem ev_slL {tl th : TO} {lo hi : Option Int} (h : Ev (rLst R) te σ F H xs) (h1 : EvO tl σ F H lo) (h2 : EvO th σ F H hi) (m : Mn R := by infer_instance) : Ev (rLst R) (tSl (rSlL K) te tl th) σ F H (cut xs lo hi) := fun F1 H1 g1 Q q =>
  h F1 H1 g1 _ fun v F2 H2 g2 ⟨a, vs, e, hl, p⟩ => h1 F2 H2 (g1.trans g2) _ fun F3 H3 g3 => h2 F3 H3 ((g1.trans g2).trans g3) _ fun F4 H4 g4 =>
    ⟨a, vs, e, SqL.of (g4.fh _ _ (g4.ff _ _ (g3.ff _ _ hl))), fun D hD => by
      have g5 : Gr M0 F4 H4 (upd F4 D (.lst (cutV vs lo hi))) (upd H4 D (.lst (cutV vs lo hi))) := .new g4.fh hD
      exact q _ _ _ (((g2.trans g3).trans g4).trans g5) ⟨D, _, rfl, upd_same, Paired.up (((g3.ff).trans g4.ff).trans g5.ff) (cut_paired p)⟩⟩
abbrev rLenS (K : PySem.W.Frag) : List V → Hp → VK → Prop := fun xs H Q => ∃ p ys, xs = [.ref p] ∧ (SqL K H p ys ∨ SqT K H p ys) ∧ Q (.int ys.length) H
theorem ev_lenL (ha : Ev (rLst R) ta σ F H xs) : Ev rInt (tCB (rLenS K) (tCons ta tNil)) σ F H (xs.length : Int) := fun F1 H1 g1 Q q =>
  ha F1 H1 g1 _ fun v F2 H2 g2 ⟨a, vs, e, hl, p⟩ => ⟨a, vs, by rw [e], .inl (SqL.of (g2.fh _ _ hl)), q _ F2 H2 g2 (by rw [← p.length]; rfl)⟩
theorem ev_lenT (ha : Ev (rTup R) ta σ F H xs) : Ev rInt (tCB (rLenS K) (tCons ta tNil)) σ F H (xs.length : Int) := fun F1 H1 g1 Q q =>
  ha F1 H1 g1 _ fun v F2 H2 g2 ⟨a, vs, e, hl, p⟩ => ⟨a, vs, by rw [e], .inr (SqT.of (g2.fh _ _ hl)), q _ F2 H2 g2 (by rw [← p.length]; rfl)⟩
theorem ev_lenM {a : Addr} {vs : List V} (ha : Ev rRef ta σ F H a) (hl : H a = some (.lst vs)) : Ev rInt (tCB (rLenS K) (tCons ta tNil)) σ F H (vs.length : Int) := fun F1 H1 g1 Q q =>
  ha F1 H1 g1 _ fun v F2 H2 g2 e => ⟨a, vs, by rw [show v = _ from e], .inl (SqL.of (g2.hx _ _ (g1.hx _ _ hl))), q _ F2 H2 g2 rfl⟩
theorem ev_lenStr {s : Str} (hz : s.length ≤ sizeLine) (ha : Ev rStr ta σ F H s) : Ev rInt (tCB (fun xs H Q => ∃ z, xs = [.str z] ∧ z.length ≤ sizeLine ∧ Q (.int z.length) H) (tCons ta tNil)) σ F H (s.length : Int) := fun F1 H1 g1 Q q =>
  ha F1 H1 g1 _ fun v F2 H2 g2 e => ⟨s, by rw [show v = _ from e], hz, q _ F2 H2 g2 rfl⟩

/-! ### displays, list(..), tuple(..) -/
def EvL {α : Type} (R : Rp α) (ta : TA) (σ : St) (F H : Hp) (xs : List α) : Prop := EvA ta σ F H (fun F vs => Paired (R F) vs xs)
theorem el_nil : EvL R tNil σ F H [] := fun F1 H1 g Q q => q _ F1 H1 (.refl g.fh) .nil
theorem el_cons {tr : TA} (h : Ev R te σ F H x) (hr : EvL R tr σ F H xs) (m : Mn R := by infer_instance) : EvL R (tCons te tr) σ F H (x :: xs) := fun F1 H1 g Q q =>
  h F1 H1 g _ fun v F2 H2 g2 r => hr F2 H2 (g.trans g2) _ fun ws F3 H3 g3 p => q _ F3 H3 (g2.trans g3) (.cons (m.mono g3.ff r) p)
theorem ev_lst {t : TA} (h : EvL R t σ F H xs) (hz : xs.length ≤ sizeLine) (m : Mn R := by infer_instance) : Ev (rLst R) (tLst t) σ F H xs := fun F1 H1 g Q q =>
  h F1 H1 g _ fun vs F2 H2 g2 p => ⟨by rw [p.length]; exact hz, fun D hD => q _ _ _ (g2.trans (.new g2.fh hD)) ⟨D, vs, rfl, upd_same, Paired.up (Gr.new (M := M0) g2.fh hD).ff p⟩⟩
theorem ev_tup {t : TA} (h : EvL R t σ F H xs) (hz : xs.length ≤ sizeLine) (m : Mn R := by infer_instance) : Ev (rTup R) (tTup t) σ F H xs := fun F1 H1 g Q q =>
  h F1 H1 g _ fun vs F2 H2 g2 p => ⟨by rw [p.length]; exact hz, fun D hD => q _ _ _ (g2.trans (.new g2.fh hD)) ⟨D, vs, rfl, upd_same, Paired.up (Gr.new (M := M0) g2.fh hD).ff p⟩⟩
theorem ev_pr (ha : Ev R ta σ F H x) (hb : Ev S tb σ F H y) (m : Mn R := by infer_instance) (n : Mn S := by infer_instance) : Ev (rPr R S) (tTup (tCons ta (tCons tb tNil))) σ F H (x, y) := fun F1 H1 g Q q =>
  ha F1 H1 g _ fun v F2 H2 g2 r => hb F2 H2 (g.trans g2) _ fun w F3 H3 g3 r2 => ⟨by show 2 ≤ sizeLine; decide, fun D hD => by
    have g4 : Gr M0 F3 H3 (upd F3 D (.tup [v, w])) (upd H3 D (.tup [v, w])) := .new g3.fh hD
    exact q _ _ _ ((g2.trans g3).trans g4) ⟨D, v, w, rfl, upd_same, m.mono (g3.ff.trans g4.ff) r, n.mono g4.ff r2⟩⟩
abbrev rListS (K : PySem.W.Frag) : List V → Hp → VK → Prop := fun xs H Q => ∃ p ys, xs = [.ref p] ∧ (SqL K H p ys ∨ SqT K H p ys) ∧ ∀ l, H l = none → Q (.ref l) (upd H l (.lst ys))
abbrev rTupS (K : PySem.W.Frag) : List V → Hp → VK → Prop := fun xs H Q => ∃ p ys, xs = [.ref p] ∧ ((SqL K H p ys ∧ ∀ l, H l = none → Q (.ref l) (upd H l (.tup ys))) ∨ (SqT K H p ys ∧ Q (.ref p) H))
theorem ev_listL (ha : Ev (rLst R) ta σ F H xs) (m : Mn R := by infer_instance) : Ev (rLst R) (tCB (rListS K) (tCons ta tNil)) σ F H xs := fun F1 H1 g1 Q q =>
  ha F1 H1 g1 _ fun v F2 H2 g2 ⟨a, vs, e, hl, p⟩ => ⟨a, vs, by rw [e], .inl (SqL.of (g2.fh _ _ hl)), fun D hD => q _ _ _ (g2.trans (.new g2.fh hD)) ⟨D, vs, rfl, upd_same, Paired.up (Gr.new (M := M0) g2.fh hD).ff p⟩⟩
theorem ev_listT (ha : Ev (rTup R) ta σ F H xs) (m : Mn R := by infer_instance) : Ev (rLst R) (tCB (rListS K) (tCons ta tNil)) σ F H xs := fun F1 H1 g1 Q q =>
  ha F1 H1 g1 _ fun v F2 H2 g2 ⟨a, vs, e, hl, p⟩ => ⟨a, vs, by rw [e], .inr (SqT.of (g2.fh _ _ hl)), fun D hD => q _ _ _ (g2.trans (.new g2.fh hD)) ⟨D, vs, rfl, upd_same, Paired.up (Gr.new (M := M0) g2.fh hD).ff p⟩⟩
theorem ev_tupL (ha : Ev (rLst R) ta σ F H xs) (m : Mn R := by infer_instance) : Ev (rTup R) (tCB (rTupS K) (tCons ta tNil)) σ F H xs := fun F1 H1 g1 Q q =>
  ha F1 H1 g1 _ fun v F2 H2 g2 ⟨a, vs, e, hl, p⟩ => ⟨a, vs, by rw [e], .inl ⟨SqL.of (g2.fh _ _ hl), fun D hD => q _ _ _ (g2.trans (.new g2.fh hD)) ⟨D, vs, rfl, upd_same, Paired.up (Gr.new (M := M0) g2.fh hD).ff p⟩⟩⟩
theorem rgV_paired {H : Hp} (n : Nat) : Paired (rNat H) (rgV 0 (n : Int)) (List.range n) := by
  unfold rgV
  rw [show ((n : Int) - 0).toNat = n by omega]
  have : ∀ l : List Nat, Paired (rNat H) (l.map fun i => V.int (0 + (i : Nat))) l := fun l => by
    induction l with
    | nil => exact .nil
    | cons a l ih => exact .cons (show V.int (0 + (a : Int)) = V.int (a : Int) by rw [Int.zero_add]) ih
  exact this _
theorem ev_tupRg {n : Nat} (ha : Ev rInt ta σ F H (n : Int)) (hn : n ≤ 1000000) : Ev (rTup rNat) (tTupRg (tRg1 ta)) σ F H (List.range n) := fun F1 H1 g1 Q q =>
  ha F1 H1 g1 _ fun v F2 H2 g2 e => ⟨n, e, .of_le (by omega) (by omega) (by omega) (by omega), fun D hD => q _ _ _ (g2.trans (.new g2.fh hD)) ⟨D, _, rfl, upd_same, rgV_paired n⟩⟩
theorem ev_lstRg {n : Nat} (ha : Ev rInt ta σ F H (n : Int)) (hn : n ≤ 1000000) : Ev (rLst rNat) (tLstRg (tRg1 ta)) σ F H (List.range n) := fun F1 H1 g1 Q q =>
  ha F1 H1 g1 _ fun v F2 H2 g2 e => ⟨n, e, .of_le (by omega) (by omega) (by omega) (by omega), fun D hD => q _ _ _ (g2.trans (.new g2.fh hD)) ⟨D, _, rfl, upd_same, rgV_paired n⟩⟩
theorem ev_all {bs : List Bool} (ha : Ev (rLst rBl) ta σ F H bs) : Ev rBl (tCB (rAll K) (tCons ta tNil)) σ F H (bs.all id) := fun F1 H1 g1 Q q =>
  ha F1 H1 g1 _ fun v F2 H2 g2 ⟨a, vs, e, hl, p⟩ => ⟨a, bs, by rw [e], by rw [← bls_paired p]; exact SqL.of (g2.fh _ _ hl), q _ F2 H2 g2 rfl⟩
theorem ev_any {bs : List Bool} (ha : Ev (rLst rBl) ta σ F H bs) : Ev rBl (tCB (rAny K) (tCons ta tNil)) σ F H (bs.any id) := fun F1 H1 g1 Q q =>
  ha F1 H1 g1 _ fun v F2 H2 g2 ⟨a, vs, e, hl, p⟩ => ⟨a, bs, by rw [e], by rw [← bls_paired p]; exact SqL.of (g2.fh _ _ hl), q _ F2 H2 g2 rfl⟩
theorem ev_sum {ns : List Int} (ha : Ev (rLst rInt) ta σ F H ns) : Ev rInt (tCB (rSum K) (tCons ta tNil)) σ F H ns.sum := fun F1 H1 g1 Q q =>
  ha F1 H1 g1 _ fun v F2 H2 g2 ⟨a, vs, e, hl, p⟩ => ⟨a, ns, by rw [e], by rw [← ints_paired p]; exact SqL.of (g2.fh _ _ hl), q _ F2 H2 g2 rfl⟩
theorem ev_cat {xs ys : List α} (ha : Ev (rLst R) ta σ F H xs) (hb : Ev (rLst R) tb σ F H ys) (hz : xs.length + ys.length ≤ sizeLine) (m : Mn R := by infer_instance) : Ev (rLst R) (tOp rCat ta tb) σ F H (xs ++ ys) := fun F1 H1 g1 Q q =>
  ha F1 H1 g1 _ fun v F2 H2 g2 ⟨a, vs, e, hl, p⟩ => hb F2 H2 (g1.trans g2) _ fun w F3 H3 g3 ⟨b, ws, e2, hl2, p2⟩ =>
    ⟨a, b, vs, ws, e, e2, g3.fh _ _ (g3.ff _ _ hl), g3.fh _ _ hl2, by rw [p.length, p2.length]; exact hz, fun D hD => by
      have g4 : Gr M0 F3 H3 (upd F3 D (.lst (vs ++ ws))) (upd H3 D (.lst (vs ++ ws))) := .new g3.fh hD
      exact q _ _ _ ((g2.trans g3).trans g4) ⟨D, _, rfl, upd_same, Paired.app (Paired.up (g3.ff.trans g4.ff) p) (Paired.up g4.ff p2)⟩⟩
theorem ev_rep1 {n : Int} (ha : Ev (rLst R) ta σ F H [x]) (hb : Ev rInt tb σ F H n) (hn : n ≤ 1000000) (h0 : -1000000 ≤ n) (m : Mn R := by infer_instance) : Ev (rLst R) (tOp rRep ta tb) σ F H (List.replicate n.toNat x) := fun F1 H1 g1 Q q =>
  ha F1 H1 g1 _ fun v F2 H2 g2 ⟨a, vs, e, hl, p⟩ => hb F2 H2 (g1.trans g2) _ fun w F3 H3 g3 e2 => by
    cases p with
    | cons r p =>
      cases p
      rename_i y
      refine ⟨a, n, [y], e, e2, g3.fh _ _ (g3.ff _ _ hl), by omega, by omega, by show 1 * n.toNat ≤ sizeLine; rw [sizeLine_eq]; omega, fun D hD => ?_⟩
      have g4 : ∀ o, Gr M0 F3 H3 (upd F3 D o) (upd H3 D o) := fun o => .new g3.fh hD
      refine q _ _ _ ((g2.trans g3).trans (g4 _)) ⟨D, _, rfl, upd_same, ?_⟩
      have r' := fun o => m.mono (g3.ff.trans (g4 o).ff) r
      generalize e5 : HO.lst _ = o5
      have r5 := r' o5
      have : ∀ k, Paired (R (upd F3 D o5)) (List.replicate k [y]).flatten (List.replicate k x) := fun k => by
        induction k with
        | zero => exact .nil
        | succ k ih => exact .cons r5 ih
      exact this _
end
end El

set_option Elab.async false
set_option linter.all false
set_option maxRecDepth 100000
set_option maxHeartbeats 2000000
namespace El
open PySem PySem.Spec L2
section
variable {K : PySem.W.Frag} {σ : St} {F H F' H' : Hp} {ta tb tc te tl : TE} {tt t u : TT} {α β γ δ ε : Type} {R : Rp α} {S : Rp β} {T : Rp γ} {x : α} {y : β} {z : γ} {xs : List α} {ys : List β} {i j : Int} {D : Ends} {ts tu : TS}

/-! ### statements -/
theorem x_set {i : Nat} (e : Ex F H) (h : Ev R te σ F H x) (k : ∀ v F' H', Gr M0 F H F' H' → R F' v x → D.nx (σ.set i (some v)) H') : tAsg te (gName i) D σ H := h F H (.refl e) _ fun v F' H' g r => k v F' H' g r
theorem x_ret (e : Ex F H) (h : Ev R te σ F H x) (k : ∀ v F' H', Gr M0 F H F' H' → R F' v x → D.rt v H') : tRet te D σ H := h F H (.refl e) _ k
theorem x_drop (e : Ex F H) (h : Ev R te σ F H x) (k : ∀ F' H', Gr M0 F H F' H' → D.nx σ H') : tDrop te D σ H := h F H (.refl e) _ fun v F' H' g _ => k F' H' g
theorem x_if {b : Bool} (e : Ex F H) (h : EvT t σ F H b) (k1 : b = true → ∀ F' H', Gr M0 F H F' H' → ts D σ H') (k2 : b = false → ∀ F' H', Gr M0 F H F' H' → tu D σ H') : tIfS t ts tu D σ H := h F H (.refl e) _ fun F' H' g => by
  cases b with
  | true => exact k1 rfl F' H' g
  | false => exact k2 rfl F' H' g
/-- name += int -/
theorem x_aug {i : Nat} {a b : Int} {f : Int → Int → Int} (e : Ex F H) (hx : σ[i]? = some (some (.int a))) (h : Ev rInt te σ F H b) (k : ∀ F' H', Gr M0 F H F' H' → D.nx (σ.set i (some (.int (f a b)))) H') : tAug i te (ipI f) D σ H :=
  ⟨.int a, hx, h F H (.refl e) _ fun v F' H' g r => ⟨a, b, rfl, r, k F' H' g⟩⟩
/-- a new list that may change: x = [] -/
theorem x_nil {i : Nat} (e : Ex F H) (k : ∀ l, H l = none → D.nx (σ.set i (some (.ref l))) (upd H l (.lst []))) : tAsg (tLst tNil) (gName i) D σ H := ⟨Nat.zero_le _, fun l hl => k l hl⟩
/-- a new list that may change, by what it evaluates to -/
theorem x_setM {i : Nat} (e : Ex F H) (h : Ev (rLst R) te σ F H xs) (k : ∀ v F' H', Gr M0 F H F' H' → rLst R F' v xs → D.nx (σ.set i (some v)) H') : tAsg te (gName i) D σ H := x_set e h k
/-- xs.append(e) -/
theorem x_app {l : Addr} {vs : List V} (e : Ex F H) (ha : Ev rRef ta σ F H l) (hl : H l = some (.lst vs)) (h : Ev R te σ F H x) (hz : vs.length < sizeLine)
    (k : ∀ v F' H', Gr M0 F H F' H' → R F' v x → H' l = some (.lst vs) → D.nx σ (upd H' l (.lst (vs ++ [v])))) : tDrop (tBM K "list" rAppend ta (tCons te tNil)) D σ H :=
  ha F H (.refl e) _ fun v F1 H1 g1 r1 => by
    cases (show v = _ from r1)
    exact ⟨.inl ⟨rfl, vs, SqL.of (g1.hx _ _ hl)⟩, h F1 H1 g1 _ fun w F2 H2 g2 r2 => ⟨l, vs, w, rfl, rfl, g2.hx _ _ (g1.hx _ _ hl), hz, k w F2 H2 (g1.trans g2) r2 (g2.hx _ _ (g1.hx _ _ hl))⟩⟩
/-- xs.extend(e) -/
theorem x_ext {l : Addr} {vs : List V} {zs : List α} (e : Ex F H) (ha : Ev rRef ta σ F H l) (hl : H l = some (.lst vs)) (h : Ev (rLst R) te σ F H zs) (hz : vs.length + zs.length ≤ sizeLine)
    (k : ∀ ws F' H', Gr M0 F H F' H' → Paired (R F') ws zs → H' l = some (.lst vs) → D.nx σ (upd H' l (.lst (vs ++ ws)))) : tDrop (tBM K "list" rExtend ta (tCons te tNil)) D σ H :=
  ha F H (.refl e) _ fun v F1 H1 g1 r1 => by
    cases (show v = _ from r1)
    exact ⟨.inl ⟨rfl, vs, SqL.of (g1.hx _ _ hl)⟩, h F1 H1 g1 _ fun w F2 H2 g2 ⟨b, ws, eb, hb, p⟩ => by
      subst eb
      exact ⟨l, b, vs, ws, rfl, rfl, g2.hx _ _ (g1.hx _ _ hl), g2.fh _ _ hb, by rw [p.length]; exact hz, k ws F2 H2 (g1.trans g2) p (g2.hx _ _ (g1.hx _ _ hl))⟩⟩
/-- xs[i] = e -/
theorem x_setI {l : Addr} {vs : List V} {n : Nat} (e : Ex F H) (h : Ev R te σ F H x) (ha : Ev rRef ta σ F H l) (hi : Ev rInt tb σ F H (n : Int)) (hl : H l = some (.lst vs)) (hn : n < vs.length)
    (k : ∀ v F' H', Gr M0 F H F' H' → R F' v x → H' l = some (.lst vs) → D.nx σ (upd H' l (.lst (vs.set n v)))) (m : Mn R := by infer_instance) : tAsg te (gSub ta tb rSetL) D σ H :=
  h F H (.refl e) _ fun v F1 H1 g1 r1 => ha F1 H1 g1 _ fun w F2 H2 g2 r2 => hi F2 H2 (g1.trans g2) _ fun w3 F3 H3 g3 r3 => by
    refine ⟨l, vs, (n : Int), n, r2, r3, g3.hx _ _ (g2.hx _ _ (g1.hx _ _ hl)), ?_, k v F3 H3 ((g1.trans g2).trans g3) (m.mono (g2.ff.trans g3.ff) r1) (g3.hx _ _ (g2.hx _ _ (g1.hx _ _ hl)))⟩
    unfold ixN
    rw [if_pos (by omega), if_pos (by omega)]
    rfl

/-! ### loops -/
/-- for x in a frozen list -/
theorem x_forL {n : Nat} (e : Ex F H) (h : Ev (rLst R) tl σ F H xs) (Pv : Nat → St → Hp → Hp → Prop) (h0 : ∀ F1 H1, Gr M0 F H F1 H1 → Pv 0 σ F1 H1)
    (hs : ∀ F1, Ex F F1 → ∀ i x v σ' F' H', xs[i]? = some x → Ex F1 F' → Ex F' H' → R F' v x → Pv i σ' F' H' →
      ts { D with nx := fun σ2 H2 => ∃ F2, Ex F1 F2 ∧ Ex F2 H2 ∧ Pv (i + 1) σ2 F2 H2, ct := fun σ2 H2 => ∃ F2, Ex F1 F2 ∧ Ex F2 H2 ∧ Pv (i + 1) σ2 F2 H2, bk := D.nx } (σ'.set n (some v)) H')
    (hd : ∀ σ' F' H', Ex F F' → Ex F' H' → Pv xs.length σ' F' H' → D.nx σ' H') (m : Mn R := by infer_instance) : tFor (iList K tl) (gName n) ts D σ H := by
  refine h F H (.refl e) _ fun v F1 H1 g1 ⟨a, vs, ea, hl, p⟩ => ⟨a, ea, ⟨vs, SqL.of (g1.fh _ _ hl)⟩, ?_⟩
  refine for_list (xs := vs) (fun i σ' H' => ∃ F', Ex F1 F' ∧ Ex F' H' ∧ Pv i σ' F' H') ⟨F1, Ex.refl _, g1.fh, h0 F1 H1 g1⟩ (fun i σ' H' _ ⟨F', e1, e2, _⟩ => SqL.of (e2 _ _ (e1 _ _ hl))) ?_ ?_
  · rintro i w σ' H' hi ⟨F', e1, e2, pv⟩
    obtain ⟨x, hx, rx⟩ := Paired.getL p hi
    exact hs F1 g1.ff i x w σ' F' H' hx e1 e2 (m.mono e1 rx) pv
  · rintro σ' H' ⟨F', e1, e2, pv⟩
    rw [p.length] at pv
    exact hd σ' F' H' (g1.ff.trans e1) e2 pv
theorem x_forT {n : Nat} (e : Ex F H) (h : Ev (rTup R) tl σ F H xs) (Pv : Nat → St → Hp → Hp → Prop) (h0 : ∀ F1 H1, Gr M0 F H F1 H1 → Pv 0 σ F1 H1)
    (hs : ∀ F1, Ex F F1 → ∀ i x v σ' F' H', xs[i]? = some x → Ex F1 F' → Ex F' H' → R F' v x → Pv i σ' F' H' →
      ts { D with nx := fun σ2 H2 => ∃ F2, Ex F1 F2 ∧ Ex F2 H2 ∧ Pv (i + 1) σ2 F2 H2, ct := fun σ2 H2 => ∃ F2, Ex F1 F2 ∧ Ex F2 H2 ∧ Pv (i + 1) σ2 F2 H2, bk := D.nx } (σ'.set n (some v)) H')
    (hd : ∀ σ' F' H', Ex F F' → Ex F' H' → Pv xs.length σ' F' H' → D.nx σ' H') (m : Mn R := by infer_instance) : tFor (iTup K tl) (gName n) ts D σ H := by
  refine h F H (.refl e) _ fun v F1 H1 g1 ⟨a, vs, ea, hl, p⟩ => ⟨a, ea, ⟨vs, SqT.of (g1.fh _ _ hl)⟩, ?_⟩
  refine for_tup (xs := vs) (fun i σ' H' => ∃ F', Ex F1 F' ∧ Ex F' H' ∧ Pv i σ' F' H') ⟨F1, Ex.refl _, g1.fh, h0 F1 H1 g1⟩ (fun i σ' H' _ ⟨F', e1, e2, _⟩ => SqT.of (e2 _ _ (e1 _ _ hl))) ?_ ?_
  · rintro i w σ' H' hi ⟨F', e1, e2, pv⟩
    obtain ⟨x, hx, rx⟩ := Paired.getL p hi
    exact hs F1 g1.ff i x w σ' F' H' hx e1 e2 (m.mono e1 rx) pv
  · rintro σ' H' ⟨F', e1, e2, pv⟩
    rw [p.length] at pv
    exact hd σ' F' H' (g1.ff.trans e1) e2 pv
/-- for k in range(n) -/
theorem x_forR {j : Nat} {n : Nat} {ta : TE} (e : Ex F H) (h : Ev rInt ta σ F H (n : Int)) (hn : n ≤ 1000000000) (Pv : Nat → St → Hp → Hp → Prop) (h0 : ∀ F1 H1, Gr M0 F H F1 H1 → Pv 0 σ F1 H1)
    (hs : ∀ F1, Ex F F1 → ∀ i σ' F' H', i < n → Ex F1 F' → Ex F' H' → Pv i σ' F' H' →
      ts { D with nx := fun σ2 H2 => ∃ F2, Ex F1 F2 ∧ Ex F2 H2 ∧ Pv (i + 1) σ2 F2 H2, ct := fun σ2 H2 => ∃ F2, Ex F1 F2 ∧ Ex F2 H2 ∧ Pv (i + 1) σ2 F2 H2, bk := D.nx } (σ'.set j (some (.int (i : Int)))) H')
    (hd : ∀ σ' F' H', Ex F F' → Ex F' H' → Pv n σ' F' H' → D.nx σ' H') : tFor (iRng1 (tCons ta tNil)) (gName j) ts D σ H := by
  refine h F H (.refl e) _ fun v F1 H1 g1 ea => ⟨(n : Int), by rw [show v = _ from ea], by omega, by omega, ?_⟩
  rw [Int.toNat_natCast]
  refine for_range (lo := 0) (n := n) (fun i σ' H' => ∃ F', Ex F1 F' ∧ Ex F' H' ∧ Pv i σ' F' H') ⟨F1, Ex.refl _, g1.fh, h0 F1 H1 g1⟩ ?_ ?_
  · rintro i σ' H' hi ⟨F', e1, e2, pv⟩
    have e0 : (0 : Int) + (i : Int) = (i : Int) := Int.zero_add _
    show ts _ (σ'.set j (some (.int ((0 : Int) + (i : Int))))) H'
    rw [e0]
    exact hs F1 g1.ff i σ' F' H' hi e1 e2 pv
  · rintro σ' H' ⟨F', e1, e2, pv⟩
    exact hd σ' F' H' (g1.ff.trans e1) e2 pv
/-- for k in range(a, b) -/
theorem x_forR2 {j : Nat} {a b : Nat} {ta tb : TE} (e : Ex F H) (h : Ev rInt ta σ F H (a : Int)) (h2 : Ev rInt tb σ F H (b : Int)) (hn : b ≤ 1000000000) (ha : a ≤ 1000000000) (Pv : Nat → St → Hp → Hp → Prop) (h0 : ∀ F1 H1, Gr M0 F H F1 H1 → Pv 0 σ F1 H1)
    (hs : ∀ F1, Ex F F1 → ∀ i σ' F' H', a + i < b → Ex F1 F' → Ex F' H' → Pv i σ' F' H' →
      ts { D with nx := fun σ2 H2 => ∃ F2, Ex F1 F2 ∧ Ex F2 H2 ∧ Pv (i + 1) σ2 F2 H2, ct := fun σ2 H2 => ∃ F2, Ex F1 F2 ∧ Ex F2 H2 ∧ Pv (i + 1) σ2 F2 H2, bk := D.nx } (σ'.set j (some (.int ((a + i : Nat) : Int)))) H')
    (hd : ∀ σ' F' H', Ex F F' → Ex F' H' → Pv (b - a) σ' F' H' → D.nx σ' H') : tFor (iRng2 (tCons ta (tCons tb tNil))) (gName j) ts D σ H := by
  refine h F H (.refl e) _ fun v F1 H1 g1 ea => h2 F1 H1 g1 _ fun w F2 H2 g2 eb => ⟨(a : Int), (b : Int), by rw [show v = _ from ea, show w = _ from eb], ⟨by omega, by omega, by omega, by omega⟩, ?_⟩
  rw [show ((b : Int) - (a : Int)).toNat = b - a by omega]
  refine for_range (lo := (a : Int)) (n := b - a) (fun i σ' H' => ∃ F', Ex F2 F' ∧ Ex F' H' ∧ Pv i σ' F' H') ⟨F2, Ex.refl _, g2.fh, h0 F2 H2 (g1.trans g2)⟩ ?_ ?_
  · rintro i σ' H' hi ⟨F', e1, e2, pv⟩
    have e0 : ((a : Int) + (i : Int)) = ((a + i : Nat) : Int) := by omega
    show ts _ (σ'.set j (some (.int ((a : Int) + (i : Int))))) H'
    rw [e0]
    exact hs F2 (g1.ff.trans g2.ff) i σ' F' H' (by omega) e1 e2 pv
  · rintro σ' H' ⟨F', e1, e2, pv⟩
    exact hd σ' F' H' ((g1.ff.trans g2.ff).trans e1) e2 pv
/-- while: a test that is pure, a measure -/
theorem x_while {tc : TT} (e : Ex F H) (Pv : Nat → St → Hp → Hp → Prop) (m0 : Nat) (h0 : Pv m0 σ F H) (b : Nat → St → Hp → Hp → Bool) (hc : ∀ m σ' F' H', Ex F F' → Ex F' H' → Pv m σ' F' H' → EvT tc σ' F' H' (b m σ' F' H'))
    (st : ∀ m σ' F' H' F2 H2, Gr M0 F' H' F2 H2 → Pv m σ' F' H' → Pv m σ' F2 H2)
    (hs : ∀ m σ' F' H' F2 H2, Ex F F' → Gr M0 F' H' F2 H2 → b m σ' F' H' = true → Pv m σ' F' H' → Pv m σ' F2 H2 → 
      ts { D with nx := fun σ2 H2 => ∃ F2 m', Ex F F2 ∧ Ex F2 H2 ∧ m' < m ∧ Pv m' σ2 F2 H2, ct := fun σ2 H2 => ∃ F2 m', Ex F F2 ∧ Ex F2 H2 ∧ m' < m ∧ Pv m' σ2 F2 H2, bk := D.nx } σ' H2)
    (hd : ∀ m σ' F' H' F2 H2, Ex F F' → Gr M0 F' H' F2 H2 → b m σ' F' H' = false → Pv m σ' F' H' → Pv m σ' F2 H2 → D.nx σ' H2) : tWhile tc ts D σ H := by
  refine ⟨fun m σ' H' => ∃ F', Ex F F' ∧ Ex F' H' ∧ Pv m σ' F' H', ⟨m0, F, Ex.refl _, e, h0⟩, ?_⟩
  rintro m σ' H' ⟨F', e1, e2, pv⟩
  refine hc m σ' F' H' e1 e2 pv F' H' (.refl e2) _ fun F2 H2 g => ?_
  cases q : b m σ' F' H' with
  | true => exact ⟨_, fun σ2 H3 ⟨F3, m', a1, a2, a3, a4⟩ => ⟨m', a3, F3, a1, a2, a4⟩, hs m σ' F' H' F2 H2 e1 g q pv (st _ _ _ _ _ _ g pv)⟩
  | false => exact hd m σ' F' H' F2 H2 e1 g q pv (st _ _ _ _ _ _ g pv)

/-! ### comprehensions -/
/-- [elt for x in list], of each item an answer -/
theorem ev_lc {n : Nat} {vs : List Nat} (h : Ev (rLst R) tl σ F H xs) (hlen : ys.length = xs.length) (hz : xs.length ≤ 1000000) (hw : ∀ v, wipe ((wipe σ vs).set n (some v)) vs = wipe σ vs)
    (he : ∀ (i : Nat) x y v F1 H1, xs[i]? = some x → ys[i]? = some y → Gr M0 F H F1 H1 → R F1 v x → Ev S te ((wipe σ vs).set n (some v)) F1 H1 y) (m : Mn R := by infer_instance) (m' : Mn S := by infer_instance) : Ev (rLst S) (tLc (iList K tl) (gName n) tYes te vs) σ F H ys := by
  intro F1 H1 g1 Q q
  refine h F1 H1 g1 _ fun v F2 H2 g2 ⟨a, ws, ea, hl, p⟩ => ⟨a, ea, ⟨ws, SqL.of (g2.fh _ _ hl)⟩, fun D hD => ?_⟩
  refine lc_list (xs := ws) (fun i H' => ∃ F' us, Gr M0 F2 H2 F' H' ∧ F' D = none ∧ H' D = some (.lst us) ∧ Paired (S F') us (ys.take i)) ⟨F2, [], .loc g2.fh hD, g2.fh.free hD, upd_same, .nil⟩ (fun i H' _ ⟨F', us, g, _⟩ => SqL.of (g.fh _ _ (g.ff _ _ hl))) ?_ ?_
  · rintro i w H' hi ⟨F', us, g, fD, hD', pu⟩
    obtain ⟨x, hx, rx⟩ := Paired.getL p hi
    have hil : i < ys.length := by rw [hlen]; exact (List.getElem?_eq_some_iff.mp hx).1
    have hy : ys[i]? = some ys[i] := List.getElem?_eq_getElem hil
    refine ⟨hw w, ?_⟩
    refine he i x ys[i] w F' H' hx hy ((g1.trans g2).trans g) (m.mono g.ff rx) F' H' (.refl g.fh) _ fun u F3 H3 g3 r3 => ?_
    refine ⟨us, g3.hx _ _ hD', ?_, F3, us ++ [u], (g.trans g3).set' (g3.nn hD' fD) (.inl hD), g3.nn hD' fD, upd_same, ?_⟩
    · rw [pu.length, List.length_take, sizeLine_eq]
      omega
    · rw [List.take_add_one, hy]
      exact (Paired.up g3.ff pu).snoc r3
  · rintro H' ⟨F', us, g, fD, hD', pu⟩
    rw [p.length, ← hlen, List.take_length] at pu
    exact q _ _ _ (g2.trans (g.frz hD' (g2.fh.free hD) (.inl hD))) ⟨D, us, rfl, upd_same, Paired.up (g.fh.frz hD' fD) pu⟩
theorem ev_lcT {n : Nat} {vs : List Nat} (h : Ev (rTup R) tl σ F H xs) (hlen : ys.length = xs.length) (hz : xs.length ≤ 1000000) (hw : ∀ v, wipe ((wipe σ vs).set n (some v)) vs = wipe σ vs)
    (he : ∀ (i : Nat) x y v F1 H1, xs[i]? = some x → ys[i]? = some y → Gr M0 F H F1 H1 → R F1 v x → Ev S te ((wipe σ vs).set n (some v)) F1 H1 y) (m : Mn R := by infer_instance) (m' : Mn S := by infer_instance) : Ev (rLst S) (tLc (iTup K tl) (gName n) tYes te vs) σ F H ys := by
  intro F1 H1 g1 Q q
  refine h F1 H1 g1 _ fun v F2 H2 g2 ⟨a, ws, ea, hl, p⟩ => ⟨a, ea, ⟨ws, SqT.of (g2.fh _ _ hl)⟩, fun D hD => ?_⟩
  refine lc_tup (xs := ws) (fun i H' => ∃ F' us, Gr M0 F2 H2 F' H' ∧ F' D = none ∧ H' D = some (.lst us) ∧ Paired (S F') us (ys.take i)) ⟨F2, [], .loc g2.fh hD, g2.fh.free hD, upd_same, .nil⟩ (fun i H' _ ⟨F', us, g, _⟩ => SqT.of (g.fh _ _ (g.ff _ _ hl))) ?_ ?_
  · rintro i w H' hi ⟨F', us, g, fD, hD', pu⟩
    obtain ⟨x, hx, rx⟩ := Paired.getL p hi
    have hil : i < ys.length := by rw [hlen]; exact (List.getElem?_eq_some_iff.mp hx).1
    have hy : ys[i]? = some ys[i] := List.getElem?_eq_getElem hil
    refine ⟨hw w, ?_⟩
    refine he i x ys[i] w F' H' hx hy ((g1.trans g2).trans g) (m.mono g.ff rx) F' H' (.refl g.fh) _ fun u F3 H3 g3 r3 => ?_
    refine ⟨us, g3.hx _ _ hD', ?_, F3, us ++ [u], (g.trans g3).set' (g3.nn hD' fD) (.inl hD), g3.nn hD' fD, upd_same, ?_⟩
    · rw [pu.length, List.length_take, sizeLine_eq]
      omega
    · rw [List.take_add_one, hy]
      exact (Paired.up g3.ff pu).snoc r3
  · rintro H' ⟨F', us, g, fD, hD', pu⟩
    rw [p.length, ← hlen, List.take_length] at pu
    exact q _ _ _ (g2.trans (g.frz hD' (g2.fh.free hD) (.inl hD))) ⟨D, us, rfl, upd_same, Paired.up (g.fh.frz hD' fD) pu⟩
/-- [elt for k in range(n)] -/
theorem ev_lcR {j n : Nat} {vs : List Nat} {ta : TE} (h : Ev rInt ta σ F H (n : Int)) (hlen : ys.length = n) (hz : n ≤ 1000000) (hw : ∀ v, wipe ((wipe σ vs).set j (some v)) vs = wipe σ vs)
    (he : ∀ i y F1 H1, i < n → ys[i]? = some y → Gr M0 F H F1 H1 → Ev S te ((wipe σ vs).set j (some (.int (i : Int)))) F1 H1 y) (m' : Mn S := by infer_instance) : Ev (rLst S) (tLc (iRng1 (tCons ta tNil)) (gName j) tYes te vs) σ F H ys := by
  intro F1 H1 g1 Q q
  refine h F1 H1 g1 _ fun v F2 H2 g2 ea => ⟨(n : Int), by rw [show v = _ from ea], by omega, by omega, fun D hD => ?_⟩
  rw [Int.toNat_natCast]
  refine lc_range (lo := 0) (n := n) (fun i H' => ∃ F' us, Gr M0 F2 H2 F' H' ∧ F' D = none ∧ H' D = some (.lst us) ∧ Paired (S F') us (ys.take i)) ⟨F2, [], .loc g2.fh hD, g2.fh.free hD, upd_same, .nil⟩ ?_ ?_
  · rintro i H' hi ⟨F', us, g, fD, hD', pu⟩
    have hil : i < ys.length := by rw [hlen]; exact hi
    have hy : ys[i]? = some ys[i] := List.getElem?_eq_getElem hil
    have e0 : (0 : Int) + (i : Int) = (i : Int) := Int.zero_add _
    rw [e0]
    refine ⟨hw _, ?_⟩
    refine he i ys[i] F' H' hi hy ((g1.trans g2).trans g) F' H' (.refl g.fh) _ fun u F3 H3 g3 r3 => ?_
    refine ⟨us, g3.hx _ _ hD', ?_, F3, us ++ [u], (g.trans g3).set' (g3.nn hD' fD) (.inl hD), g3.nn hD' fD, upd_same, ?_⟩
    · rw [pu.length, List.length_take, sizeLine_eq]
      omega
    · rw [List.take_add_one, hy]
      exact (Paired.up g3.ff pu).snoc r3
  · rintro H' ⟨F', us, g, fD, hD', pu⟩
    rw [← hlen, List.take_length] at pu
    exact q _ _ _ (g2.trans (g.frz hD' (g2.fh.free hD) (.inl hD))) ⟨D, us, rfl, upd_same, Paired.up (g.fh.frz hD' fD) pu⟩
end

/-! ### promises of pure defs -/
def Sp1 {α β : Type} (R : Rp α) (Pre : α → Prop) (S : Rp β) (f : α → β) : Sp := fun vs H Q _ => ∃ F v x, vs = [v] ∧ Ex F H ∧ R F v x ∧ Pre x ∧ ∀ w F' H', Gr M0 F H F' H' → S F' w (f x) → Q w H'
def Sp2 {α β γ : Type} (R : Rp α) (S : Rp β) (Pre : α → β → Prop) (T : Rp γ) (f : α → β → γ) : Sp := fun vs H Q _ => ∃ F v w x y, vs = [v, w] ∧ Ex F H ∧ R F v x ∧ S F w y ∧ Pre x y ∧ ∀ z F' H', Gr M0 F H F' H' → T F' z (f x y) → Q z H'
def Sp3 {α β γ δ : Type} (R : Rp α) (S : Rp β) (T : Rp γ) (Pre : α → β → γ → Prop) (U : Rp δ) (f : α → β → γ → δ) : Sp := fun vs H Q _ => ∃ F v w u x y z, vs = [v, w, u] ∧ Ex F H ∧ R F v x ∧ S F w y ∧ T F u z ∧ Pre x y z ∧ ∀ r F' H', Gr M0 F H F' H' → U F' r (f x y z) → Q r H'
def Sp4 {α β γ δ ε : Type} (R : Rp α) (S : Rp β) (T : Rp γ) (U : Rp δ) (Pre : α → β → γ → δ → Prop) (W : Rp ε) (f : α → β → γ → δ → ε) : Sp := fun vs H Q _ => ∃ F v w u u' x y z z', vs = [v, w, u, u'] ∧ Ex F H ∧ R F v x ∧ S F w y ∧ T F u z ∧ U F u' z' ∧ Pre x y z z' ∧ ∀ r F' H', Gr M0 F H F' H' → W F' r (f x y z z') → Q r H'
section
variable {K : PySem.W.Frag} {σ : St} {F H F' H' : Hp} {ta tb tc td te tl : TE} {α β γ δ ε : Type} {R : Rp α} {S : Rp β} {T : Rp γ} {U : Rp δ} {W : Rp ε} {x : α} {y : β} {z : γ} {u : δ} {E : XK}
theorem ev_call1 {Pre : α → Prop} {f : α → β} (ha : Ev R ta σ F H x) (p : Pre x) : Ev S (tCall (Sp1 R Pre S f) [] E (tCons ta tNil)) σ F H (f x) := fun F1 H1 g1 Q q =>
  ha F1 H1 g1 _ fun v F2 H2 g2 r => ⟨F2, v, x, rfl, g2.fh, r, p, fun w F' H' g k => q w F' H' (g2.trans g) k⟩
theorem ev_call2 {Pre : α → β → Prop} {f : α → β → γ} (ha : Ev R ta σ F H x) (hb : Ev S tb σ F H y) (p : Pre x y) (m : Mn R := by infer_instance) : Ev T (tCall (Sp2 R S Pre T f) [] E (tCons ta (tCons tb tNil))) σ F H (f x y) := fun F1 H1 g1 Q q =>
  ha F1 H1 g1 _ fun v F2 H2 g2 r => hb F2 H2 (g1.trans g2) _ fun w F3 H3 g3 r3 => ⟨F3, v, w, x, y, rfl, g3.fh, m.mono g3.ff r, r3, p, fun w F' H' g k => q w F' H' ((g2.trans g3).trans g) k⟩
theorem ev_call3 {Pre : α → β → γ → Prop} {f : α → β → γ → δ} (ha : Ev R ta σ F H x) (hb : Ev S tb σ F H y) (hc : Ev T tc σ F H z) (p : Pre x y z) (m : Mn R := by infer_instance) (n : Mn S := by infer_instance) : Ev U (tCall (Sp3 R S T Pre U f) [] E (tCons ta (tCons tb (tCons tc tNil)))) σ F H (f x y z) := fun F1 H1 g1 Q q =>
  ha F1 H1 g1 _ fun v F2 H2 g2 r => hb F2 H2 (g1.trans g2) _ fun w F3 H3 g3 r3 => hc F3 H3 ((g1.trans g2).trans g3) _ fun w' F4 H4 g4 r4 =>
    ⟨F4, v, w, w', x, y, z, rfl, g4.fh, m.mono (g3.ff.trans g4.ff) r, n.mono g4.ff r3, r4, p, fun w F' H' g k => q w F' H' (((g2.trans g3).trans g4).trans g) k⟩
theorem ev_call4 {Pre : α → β → γ → δ → Prop} {f : α → β → γ → δ → ε} (ha : Ev R ta σ F H x) (hb : Ev S tb σ F H y) (hc : Ev T tc σ F H z) (hd : Ev U td σ F H u) (p : Pre x y z u) (m : Mn R := by infer_instance) (n : Mn S := by infer_instance) (o : Mn T := by infer_instance) :
    Ev W (tCall (Sp4 R S T U Pre W f) [] E (tCons ta (tCons tb (tCons tc (tCons td tNil))))) σ F H (f x y z u) := fun F1 H1 g1 Q q =>
  ha F1 H1 g1 _ fun v F2 H2 g2 r => hb F2 H2 (g1.trans g2) _ fun w F3 H3 g3 r3 => hc F3 H3 ((g1.trans g2).trans g3) _ fun w' F4 H4 g4 r4 => hd F4 H4 (((g1.trans g2).trans g3).trans g4) _ fun w'' F5 H5 g5 r5 =>
    ⟨F5, v, w, w', w'', x, y, z, u, rfl, g5.fh, m.mono ((g3.ff.trans g4.ff).trans g5.ff) r, n.mono (g4.ff.trans g5.ff) r3, o.mono g5.ff r4, r5, p, fun w F' H' g k => q w F' H' ((((g2.trans g3).trans g4).trans g5).trans g) k⟩
/-- instances: what stands at the address -/
class IsI {α : Type} (R : Rp α) (C : Addr) (m : Str) : Prop where
  at_ : ∀ {F v x}, R F v x → ∃ a dx fs, v = .ref a ∧ F a = some (.ins C dx fs) ∧ fs.lookup m = none
theorem ev_meth0 {C : Addr} {m : Str} {Pre : α → Prop} {f : α → β} [c : IsI R C m] (ha : Ev R ta σ F H x) (p : Pre x) : Ev S (tMeth C m (Sp1 R Pre S f) [] E ta tNil) σ F H (f x) := fun F1 H1 g1 Q q =>
  ha F1 H1 g1 _ fun v F2 H2 g2 r => by
    obtain ⟨a, dx, fs, e, h, l⟩ := c.at_ r
    exact ⟨a, dx, fs, e, g2.fh _ _ h, l, F2, v, x, rfl, g2.fh, r, p, fun w F' H' g k => q w F' H' (g2.trans g) k⟩
theorem ev_meth1 {C : Addr} {m : Str} {Pre : α → β → Prop} {f : α → β → γ} [c : IsI R C m] (ha : Ev R ta σ F H x) (hb : Ev S tb σ F H y) (p : Pre x y) (m' : Mn R := by infer_instance) : Ev T (tMeth C m (Sp2 R S Pre T f) [] E ta (tCons tb tNil)) σ F H (f x y) := fun F1 H1 g1 Q q =>
  ha F1 H1 g1 _ fun v F2 H2 g2 r => by
    obtain ⟨a, dx, fs, e, h, l⟩ := c.at_ r
    exact ⟨a, dx, fs, e, g2.fh _ _ h, l, hb F2 H2 (g1.trans g2) _ fun w F3 H3 g3 r3 => ⟨F3, v, w, x, y, rfl, g3.fh, m'.mono g3.ff r, r3, p, fun w F' H' g k => q w F' H' ((g2.trans g3).trans g) k⟩⟩
theorem ev_meth2 {C : Addr} {m : Str} {Pre : α → β → γ → Prop} {f : α → β → γ → δ} [c : IsI R C m] (ha : Ev R ta σ F H x) (hb : Ev S tb σ F H y) (hc : Ev T tc σ F H z) (p : Pre x y z) (m' : Mn R := by infer_instance) (n' : Mn S := by infer_instance) : Ev U (tMeth C m (Sp3 R S T Pre U f) [] E ta (tCons tb (tCons tc tNil))) σ F H (f x y z) := fun F1 H1 g1 Q q =>
  ha F1 H1 g1 _ fun v F2 H2 g2 r => by
    obtain ⟨a, dx, fs, e, h, l⟩ := c.at_ r
    exact ⟨a, dx, fs, e, g2.fh _ _ h, l, hb F2 H2 (g1.trans g2) _ fun w F3 H3 g3 r3 => hc F3 H3 ((g1.trans g2).trans g3) _ fun w' F4 H4 g4 r4 => ⟨F4, v, w, w', x, y, z, rfl, g4.fh, m'.mono (g3.ff.trans g4.ff) r, n'.mono g4.ff r3, r4, p, fun w F' H' g k => q w F' H' (((g2.trans g3).trans g4).trans g) k⟩⟩
/-- o.f -/
class IsF {α : Type} {β : outParam Type} (R : Rp α) (K : PySem.W.Frag) (f : Str) (S : outParam (Rp β)) (p : outParam (α → β)) : Prop where
  at_ : ∀ {F v x}, R F v x → ∃ a C dx fs w, v = .ref a ∧ F a = some (.ins C dx fs) ∧ Cls K C ∧ NoAttr K C f ∧ fs.lookup f = some w ∧ S F w (p x)
theorem ev_fld {f : Str} {p : α → β} (ha : Ev R ta σ F H x) (c : IsF R K f S p := by infer_instance) : Ev S (tFld K ta f) σ F H (p x) := fun F1 H1 g1 Q q =>
  ha F1 H1 g1 _ fun v F2 H2 g2 r => by
    obtain ⟨a, C, dx, fs, w, e, h, c1, c2, l, s⟩ := c.at_ r
    exact ⟨a, C, dx, fs, w, e, g2.fh _ _ h, c1, c2, l, q w F2 H2 g2 s⟩

/-! ### isinstance -/
theorem ev_isi {T : String} {b : Bool} (ha : Ev R ta σ F H x) (ht : ∀ F H v, Ex F H → R F v x → ∃ t, TyX K H v t ∧ PySem.W.kitOne K t (.type T) = some b) : Ev rBl (tCB (rIsi K) (tCons ta (tCons (tC (.ty T)) tNil))) σ F H b := fun F1 H1 g1 Q q =>
  ha F1 H1 g1 _ fun v F2 H2 g2 r => by
    obtain ⟨t, h1, h2⟩ := ht F2 H2 v g2.fh r
    exact ⟨v, .ty T, t, .type T, b, rfl, .ty T, h1, h2, q _ F2 H2 g2 rfl⟩
theorem kit_same {t : Value} : PySem.W.kitOne K t t = some true := if_pos (beq_self_eq_true _)
theorem ev_isIntInt {i : Int} (ha : Ev rInt ta σ F H i) : Ev rBl (tCB (rIsi K) (tCons ta (tCons (tC (.ty "int")) tNil))) σ F H true := ev_isi ha fun F H v _ r => ⟨_, .base (by cases (show v = _ from r); exact .int i), kit_same⟩
theorem ev_isIntBool {i : Int} (ha : Ev rInt ta σ F H i) : Ev rBl (tCB (rIsi K) (tCons ta (tCons (tC (.ty "bool")) tNil))) σ F H false := ev_isi ha fun F H v _ r => ⟨_, .base (by cases (show v = _ from r); exact .int i), kit_ty (by decide +kernel)⟩
theorem ev_isTup {xs : List α} (ha : Ev (rTup R) ta σ F H xs) : Ev rBl (tCB (rIsi K) (tCons ta (tCons (tC (.ty "tuple")) tNil))) σ F H true := ev_isi ha fun F H v e r => ⟨_, .base (by obtain ⟨a, vs, rfl, h, _⟩ := r; exact .tup (e _ _ h)), kit_same⟩
theorem ev_isLst {xs : List α} (ha : Ev (rLst R) ta σ F H xs) : Ev rBl (tCB (rIsi K) (tCons ta (tCons (tC (.ty "list")) tNil))) σ F H true := ev_isi ha fun F H v e r => ⟨_, .base (by obtain ⟨a, vs, rfl, h, _⟩ := r; exact .lst (e _ _ h)), kit_same⟩
theorem ev_isStr {s : Str} (ha : Ev rStr ta σ F H s) : Ev rBl (tCB (rIsi K) (tCons ta (tCons (tC (.ty "str")) tNil))) σ F H true := ev_isi ha fun F H v _ r => ⟨_, .base (by cases (show v = _ from r); exact .str s), kit_same⟩
end
end El
namespace El
open PySem PySem.Spec L2
theorem rpm {α : Type} {R : Rp α} {H H' : Hp} {v : V} {x : α} (e : Ex H H') (r : R H v x) (m : Mn R) : R H' v x := m.mono e r
theorem sn {D : Ends} {σ : St} {H : Hp} (h : D.nx σ H) : tNext D σ H := h
theorem sq {t u : TS} {D : Ends} {σ : St} {H : Hp} (h : t { D with nx := u D } σ H) : tSeq t u D σ H := h
theorem x_fld {K : PySem.W.Frag} {σ : St} {F H : Hp} {ta tv : TE} {α : Type} {R : Rp α} {x : α} {D : Ends} {f : Str} {a C dx : Addr} {fs : List (Str × V)} (e : Ex F H) (h : Ev R tv σ F H x) (ha : Ev rRef ta σ F H a) (ho : H a = some (.ins C dx fs)) (c : Cls K C) (n : NoAttr K C f) (l : fs.length < 1000)
    (k : ∀ v F' H', Gr M0 F H F' H' → R F' v x → H' a = some (.ins C dx fs) → D.nx σ (upd H' a (.ins C dx (putF f v fs)))) (m : Mn R := by infer_instance) : sFld K ta tv f D σ H :=
  h F H (.refl e) _ fun v F1 H1 g1 r1 => ha F1 H1 g1 _ fun w F2 H2 g2 r2 => ⟨a, C, dx, fs, r2, g2.hx _ _ (g1.hx _ _ ho), c, n, l, k v F2 H2 (g1.trans g2) (m.mono g2.ff r1) (g2.hx _ _ (g1.hx _ _ ho))⟩
end El

set_option Elab.async false
set_option linter.all false
set_option maxRecDepth 100000
set_option maxHeartbeats 2000000
namespace El
open PySem PySem.Spec L2
/-! ### len of an instance with its own __len__ -/
def rLenOwn (C : Addr) (sp : Sp) (E : XK) : List V → Hp → VK → Prop := fun xs H Q => ∃ a dx fs, xs = [V.ref a] ∧ H a = some (.ins C dx fs) ∧ sp [.ref a] H (fun v H' => ∃ n : Int, v = .int n ∧ 0 ≤ n ∧ n < 2 ^ 63 ∧ Q v H') E
theorem call_lenOwn {X : Cx} {CX : CXT} {n : Nat} {C f : Addr} {fd : FuncData} {ps : List Str} {sp : Sp} {E : XK} (F : FnOk X.prog X.w X.K X.mg X.base CX n f fd ps sp) (hr : Room (n + 1) X.A) (hs : PySem.W.findIn X.K (.ref C) "__len__" = some (some (.ref f))) (hf : PySem.W.isFn X.K (.ref f) = true)
    (hb : Binds X.K fd ps []) (hx : Passes CX X E) : CallR X (.builtin "len") (rLenOwn C sp E) := by
  intro pins s σ H xs us Q I r h
  obtain ⟨a, dx, fs, rfl, ha, hsp⟩ := h
  cases r with
  | cons r1 r2 =>
    cases r2
    cases r1
    obtain ⟨mA, J, _⟩ := ins_get I.hok ha
    obtain ⟨od, J, _⟩ := J.look
    obtain ⟨m, hF⟩ := I.fr
    refine PySem.W.len_K hF I.ok.mod.kin J hs hf ?_
    have e0 : Env0 X.prog X.w X.K X.mg X.base X.A.in1 X.stack s H := by
      have e := I.env0
      exact ⟨e.frames, e.mod, e.bs, e.bsz, e.funs, e.frf, e.hok, e.bare⟩
    have hl := F.len _ _ _ _ hsp
    have r2 : Vals [V.ref a] [Value.ref a] := .cons rfl .nil
    refine wpAny_call (codeAny_mono (F.run X.A.in1 X.stack s H ⟨[.ref a], []⟩ [.ref a] [.ref a] _ E hr.in1 e0 (by
      have := hb s [.ref a] I.kIn (by simpa using hl)
      simpa using this) r2 hsp) fun r s' hq => ?_)
    cases r with
    | error e => exact hx pins σ H s e s' I hq
    | ok fl =>
      cases fl with
      | ret w =>
        obtain ⟨z, H', I', rz, k, ez, h0, h1, q⟩ := I.after hq
        subst ez
        obtain ⟨t, rfl⟩ := rz
        exact ⟨⟨h0, h1⟩, .int k, H', I'.tok _, ⟨_, rfl⟩, q⟩
      | next => exact False.elim hq
      | brk => exact False.elim hq
      | cont => exact False.elim hq
section
variable {K : PySem.W.Frag} {σ : St} {F H : Hp} {ta : TE} {α : Type} {R : Rp α} {x : α} {E : XK}
theorem ev_lenOwn {C : Addr} {f : α → Nat} [c : IsI R C "__len__"] (ha : Ev R ta σ F H x) (hz : f x < 2 ^ 62) : Ev rInt (tCB (rLenOwn C (Sp1 R (fun _ => True) rNat f) E) (tCons ta tNil)) σ F H (f x : Int) := fun F1 H1 g1 Q q =>
  ha F1 H1 g1 _ fun v F2 H2 g2 r => by
    obtain ⟨a, dx, fs, e, h, l⟩ := c.at_ r
    subst e
    exact ⟨a, dx, fs, rfl, g2.fh _ _ h, F2, _, x, rfl, g2.fh, r, True.intro, fun w F' H' g k => ⟨(f x : Int), k, by omega, by omega, q w F' H' (g2.trans g) k⟩⟩
end
/-! ### len(set(xs)) of ints -/
def tLenSetJ (K : PySem.W.Frag) (ta : TE) : TE := fun σ H Q => ta σ H fun x H1 => ∃ (l : Addr) (ns : List Int), x = .ref l ∧ SqT K H1 l (ns.map V.int) ∧ ns.length ≤ 4000 ∧ ∀ out : List Int, out.Nodup → (∀ k, k ∈ out ↔ k ∈ ns) → Q (.int (out.length : Nat)) H1
open PyProof.Rows in
theorem pe_lenSetJ {X : Cx} {a : Expr} {ta : TE} {p p2 q pos : Pos} (hg : Gl X "len") (hm : X.mg "len" = none) (hg2 : Gl X "set") (hm2 : X.mg "set" = none) (ha : PE X a ta) (hc : X.calm = true := by rfl)
    (na : starEach [a] X.env = (false, eval a X.env) :: starEach [] X.env := by rfl) : PE X (.Call (.Name "len" p) [.Call (.Name "set" p2) [a] [] q] [] pos) (tLenSetJ X.K ta) := by
  refine ⟨fun pins s σ H Q I h => ?_⟩
  refine Call_ (ld_blt I hg hm boot_len ?_)
  refine PyProof.Rows.callWith_builtin1 (PyProof.Rows.args_cons ?_ rfl) rfl rfl
  refine Call_ (ld_blt I hg2 hm2 boot_set ?_)
  refine PyProof.Rows.callWith_type1 (PyProof.Rows.args_cons (thn (ha.run pins s σ H _ I h) fun v s1 ⟨x, H1, I1, r1, q1⟩ => PyProof.Rows.args_nil ?_) na) na rfl
  obtain ⟨l, ns, rfl, hq, hl, q1⟩ := q1
  cases r1
  obtain ⟨its, r, pt, hz⟩ := I1.tuple hq
  have hi : PyProof.Rows.IntsAre its.toArray.toList ns := ints_of_vals r
  refine call_set_tupI ns (I1.ok.hd hc) (show s1.heap.IsTuple l its.toArray from pt) hi (by unfold scanBound; omega) fun h' tk c R1 hcn k => ?_
  refine PyProof.Rows.args_nil ?_
  obtain ⟨o, es, ep, t, ho, hex, hdt, g, nd, hm3, hb, hf, hn, hr, hl2⟩ := R1
  have I2 : Inv X pins σ H1 { s1 with heap := h', toks := tk } := I1.kept fun b o e => k b o e
  have hlen : (es.toList.map keyOf).length = es.size := by rw [List.length_map, Array.length_toList]
  refine call_len_set ho hex hdt hf (by omega) ⟨.int es.size, H1, I2.tok _, ⟨_, rfl⟩, ?_⟩
  have := q1 (es.toList.map keyOf) nd fun j => by rw [← hm3 j, decide_eq_true_eq]
  rw [hlen] at this
  exact this
/-- the things of a list, each once -/
def uniq (ns : List Nat) : List Nat := ns.foldr (fun n l => if n ∈ l then l else n :: l) []
theorem mem_uniq {k : Nat} : ∀ {ns : List Nat}, k ∈ uniq ns ↔ k ∈ ns
  | [] => Iff.rfl
  | n :: ns => by
    show k ∈ (if n ∈ uniq ns then uniq ns else n :: uniq ns) ↔ _
    split
    · rename_i h
      rw [mem_uniq, List.mem_cons]
      exact ⟨.inr, fun z => z.elim (fun e => by rw [e]; exact mem_uniq.mp h) id⟩
    · rw [List.mem_cons, List.mem_cons, mem_uniq]
theorem nodup_uniq : ∀ ns : List Nat, (uniq ns).Nodup
  | [] => List.nodup_nil
  | n :: ns => by
    show (if n ∈ uniq ns then uniq ns else n :: uniq ns).Nodup
    split
    · exact nodup_uniq ns
    · rename_i h
      exact List.nodup_cons.mpr ⟨h, nodup_uniq ns⟩
theorem nodup_len_of_mem {α : Type} [DecidableEq α] {as bs : List α} (ha : as.Nodup) (hb : bs.Nodup) (h : ∀ k, k ∈ as ↔ k ∈ bs) : as.length = bs.length := by
  have p : as.Perm bs := (List.perm_ext_iff_of_nodup ha hb).mpr h
  exact p.length_eq
section
variable {K : PySem.W.Frag} {σ : St} {F H : Hp} {ta : TE}
theorem ev_lenSet {ns : List Nat} (ha : Ev (rTup rNat) ta σ F H ns) (hz : ns.length ≤ 4000) : Ev rInt (tLenSetJ K ta) σ F H ((uniq ns).length : Int) := fun F1 H1 g1 Q q =>
  ha F1 H1 g1 _ fun v F2 H2 g2 ⟨a, vs, e, hl, p⟩ => ⟨a, ns.map fun n : Nat => (n : Int), e, by rw [← nats_paired p]; exact SqT.of (g2.fh _ _ hl), by rw [List.length_map]; exact hz, fun out nd hm => by
    have : out.length = ((uniq ns).map fun n : Nat => (n : Int)).length := by
      refine nodup_len_of_mem nd ?_ fun k => ?_
      · refine List.Pairwise.map _ ?_ (nodup_uniq ns)
        intro a b h e
        exact h (by omega)
      · rw [hm, List.mem_map, List.mem_map]
        exact ⟨fun ⟨n, h, e⟩ => ⟨n, mem_uniq.mpr h, e⟩, fun ⟨n, h, e⟩ => ⟨n, mem_uniq.mp h, e⟩⟩
    rw [this, List.length_map]
    exact q _ F2 H2 g2 rfl⟩
end
/-! ### the laws' own source of draws -/
/-- a source at a: so many more draws may be made of it -/
def Src (H : Hp) (a : Addr) (N : Nat) : Prop := ∃ n c k : Int, H a = some (.lst [.int n, .int c, .int k]) ∧ 0 ≤ n ∧ 0 ≤ c ∧ c < 2147483648 ∧ 0 ≤ k ∧ k + N ≤ 1099511627776
theorem Src.le {H : Hp} {a : Addr} {N M : Nat} (h : Src H a N) (l : M ≤ N) : Src H a M := by
  obtain ⟨n, c, k, h1, h2, h3, h4, h5, h6⟩ := h
  exact ⟨n, c, k, h1, h2, h3, h4, h5, by omega⟩
theorem Src.hn {H : Hp} {a : Addr} {N : Nat} (h : Src H a N) : H a ≠ none := by
  obtain ⟨n, c, k, h1, _⟩ := h
  rw [h1]
  exact fun z => nomatch z
theorem Src.ex {H H' : Hp} {a : Addr} {N : Nat} (h : Src H a N) (e : H' a = H a) : Src H' a N := by
  unfold Src
  rw [e]
  exact h
theorem Src.gr {F H F' H' : Hp} {a : Addr} {N : Nat} (h : Src H a N) (g : Gr M0 F H F' H') : Src H' a N := by
  obtain ⟨n, c, k, h1, h2⟩ := h
  exact ⟨n, c, k, g.hx _ _ h1, h2⟩
theorem Src.upd {H : Hp} {a b : Addr} {o : HO} {N : Nat} (h : Src H a N) (e : a ≠ b) : Src (upd H b o) a N := h.ex (upd_ne e)
end El

set_option Elab.async false
set_option linter.all false
set_option maxRecDepth 100000
set_option maxHeartbeats 2000000
namespace El
open PySem PySem.Spec L2
section
variable {K : PySem.W.Frag} {σ : St} {F H F' H' : Hp} {ta tb tc te tl : TE} {tt t u : TT} {α β γ δ ε : Type} {R : Rp α} {S : Rp β} {xs : List α} {n : Nat} {vs : List Nat}
theorem ev_lcm (f : α → β) (h : Ev (rLst R) tl σ F H xs) (hz : xs.length ≤ 1000000) (hw : ∀ v, wipe ((wipe σ vs).set n (some v)) vs = wipe σ vs)
    (he : ∀ (i : Nat) x v F1 H1, xs[i]? = some x → Gr M0 F H F1 H1 → R F1 v x → Ev S te ((wipe σ vs).set n (some v)) F1 H1 (f x)) (m : Mn R := by infer_instance) (m' : Mn S := by infer_instance) : Ev (rLst S) (tLc (iList K tl) (gName n) tYes te vs) σ F H (xs.map f) :=
  ev_lc h (List.length_map _) hz hw fun i x y v F1 H1 hx hy g r => by
    rw [List.getElem?_map, hx] at hy
    cases hy
    exact he i x v F1 H1 hx g r
theorem ev_lcTm (f : α → β) (h : Ev (rTup R) tl σ F H xs) (hz : xs.length ≤ 1000000) (hw : ∀ v, wipe ((wipe σ vs).set n (some v)) vs = wipe σ vs)
    (he : ∀ (i : Nat) x v F1 H1, xs[i]? = some x → Gr M0 F H F1 H1 → R F1 v x → Ev S te ((wipe σ vs).set n (some v)) F1 H1 (f x)) (m : Mn R := by infer_instance) (m' : Mn S := by infer_instance) : Ev (rLst S) (tLc (iTup K tl) (gName n) tYes te vs) σ F H (xs.map f) :=
  ev_lcT h (List.length_map _) hz hw fun i x y v F1 H1 hx hy g r => by
    rw [List.getElem?_map, hx] at hy
    cases hy
    exact he i x v F1 H1 hx g r
theorem ev_lcRm (f : Nat → β) {j : Nat} {ta : TE} (h : Ev rInt ta σ F H (n : Int)) (hz : n ≤ 1000000) (hw : ∀ v, wipe ((wipe σ vs).set j (some v)) vs = wipe σ vs)
    (he : ∀ i F1 H1, i < n → Gr M0 F H F1 H1 → Ev S te ((wipe σ vs).set j (some (.int (i : Int)))) F1 H1 (f i)) (m' : Mn S := by infer_instance) : Ev (rLst S) (tLc (iRng1 (tCons ta tNil)) (gName j) tYes te vs) σ F H ((List.range n).map f) :=
  ev_lcR h (by rw [List.length_map, List.length_range]) hz hw fun i y F1 H1 hi hy g => by
    rw [List.getElem?_map, List.getElem?_range hi] at hy
    cases hy
    exact he i F1 H1 hi g
theorem mem_of_at {xs : List α} {i : Nat} {x : α} (h : xs[i]? = some x) : x ∈ xs := List.mem_of_getElem? h
end

/-! ### turns -/
structure Tn where
  many : Nat
  maps : List (List Nat)
  h0 : 1 ≤ many
  h1 : many ≤ 32
  h2 : 1 ≤ maps.length
  h3 : maps.length ≤ 200
  h4 : ∀ m ∈ maps, m.length = many ∧ ∀ x ∈ m, x < many
def rTurns (C : Addr) : Rp Tn := fun H v T => ∃ a dx l, v = .ref a ∧ H a = some (.ins C dx [("many", .int (T.many : Int)), ("maps", l)]) ∧ rLst (rTup rNat) H l T.maps
instance {C : Addr} : Mn (rTurns C) := ⟨fun e ⟨a, dx, l, h1, h2, h3⟩ => ⟨a, dx, l, h1, e _ _ h2, Mn.mono e h3⟩⟩
instance {C : Addr} : NotN (rTurns C) := ⟨fun ⟨_, _, _, h, _⟩ e => by rw [h] at e; cases e⟩
instance {C : Addr} : IsI (rTurns C) C "__len__" := ⟨fun ⟨a, dx, l, h1, h2, h3⟩ => ⟨a, dx, _, h1, h2, rfl⟩⟩
theorem fld_many {K : PySem.W.Frag} {C : Addr} (c : Cls K C) (n : NoAttr K C "many") : IsF (rTurns C) K "many" rNat Tn.many := ⟨fun ⟨a, dx, l, h1, h2, h3⟩ => ⟨a, C, dx, _, _, h1, h2, c, n, rfl, rfl⟩⟩
theorem fld_maps {K : PySem.W.Frag} {C : Addr} (c : Cls K C) (n : NoAttr K C "maps") : IsF (rTurns C) K "maps" (rLst (rTup rNat)) Tn.maps := ⟨fun ⟨a, dx, l, h1, h2, h3⟩ => ⟨a, C, dx, _, _, h1, h2, c, n, rfl, h3⟩⟩
/-- what C(..) makes of turns: the promise of __init__ -/
def SpTurns (C : Addr) : Sp := fun vs H Q _ => ∃ (F : Hp) (a dx : Addr) (l : V) (T : Tn), vs = [.ref a, .int (T.many : Int), l] ∧ Ex F H ∧ F a = none ∧ H a = some (.ins C dx []) ∧ rLst (rTup rNat) F l T.maps ∧
  ∀ F' H', Gr (M1 a) F H F' H' → rTurns C F' (.ref a) T → Q .non H'
theorem ev_Turns {σ : St} {F H : Hp} {ta tb : TE} {C : Addr} {T : Tn} {E : XK} (ha : Ev rInt ta σ F H (T.many : Int)) (hb : Ev (rLst (rTup rNat)) tb σ F H T.maps) : Ev (rTurns C) (tMake C (SpTurns C) [] E (tCons ta (tCons tb tNil))) σ F H T := fun F1 H1 g1 Q q =>
  ha F1 H1 g1 _ fun v F2 H2 g2 r => hb F2 H2 (g1.trans g2) _ fun w F3 H3 g3 r3 => fun x dx nx ndx nex => by
    cases (show v = _ from r)
    have h1 : (upd H3 dx (.own x)) x = none := by rw [upd_ne nex.symm]; exact nx
    have e1 : Ex F3 (upd (upd H3 dx (.own x)) x (.ins C dx [])) := (g3.fh.mut (g3.fh.free ndx)).mut (g3.fh.free nx)
    refine ⟨F3, x, dx, w, T, rfl, e1, g3.fh.free nx, upd_same, r3, fun F' H' g k => ⟨rfl, q _ F' H' ((g2.trans g3).trans ⟨g.ff, g.fh, fun b o _ h => ?_, fun b _ h n => ?_, fun b h => ?_⟩) k⟩⟩
    · have b1 : b ≠ x := fun z => by subst z; rw [nx] at h; cases h
      have b2 : b ≠ dx := fun z => by subst z; rw [ndx] at h; cases h
      exact g.hh b o b1 (by rw [upd_ne b1, upd_ne b2]; exact h)
    · have b1 : b ≠ x := fun z => h (z ▸ nx)
      have b2 : b ≠ dx := fun z => h (z ▸ ndx)
      exact g.nw b b1 (by rw [upd_ne b1, upd_ne b2]; exact h) n
    · have b1 : b ≠ x := fun z => h (z ▸ nx)
      have b2 : b ≠ dx := fun z => h (z ▸ ndx)
      exact g.dm b (by rw [upd_ne b1, upd_ne b2]; exact h)
/-- mirrors -/
def idMap (n : Nat) : List Nat := List.range n
def thenM (a b : List Nat) : List Nat := a.map fun x => b.getD x 0
def metB (a : List Nat) : Bool := decide ((uniq a).length = 1)
def mapFrom (T : Tn) (m : List Nat) (w : List Nat) : List Nat := w.foldl (fun m s => thenM m (T.maps.getD s [])) m
def mapW (T : Tn) (w : List Nat) : List Nat := mapFrom T (idMap T.many) w
/-- a map of the turns' places -/
def IsMap (n : Nat) (m : List Nat) : Prop := m.length = n ∧ ∀ x ∈ m, x < n
theorem isMap_id (n : Nat) : IsMap n (idMap n) := ⟨List.length_range, fun x h => List.mem_range.mp h⟩
theorem isMap_then {n : Nat} {a b : List Nat} (ha : IsMap n a) (hb : IsMap n b) : IsMap n (thenM a b) := by
  refine ⟨by unfold thenM; rw [List.length_map]; exact ha.1, fun x h => ?_⟩
  obtain ⟨y, hy, rfl⟩ := List.mem_map.mp h
  have hl : y < b.length := by rw [hb.1]; exact ha.2 y hy
  rw [List.getD_eq_getElem?_getD, List.getElem?_eq_getElem hl]
  exact hb.2 _ (List.getElem_mem hl)
theorem Tn.isMap (T : Tn) {s : Nat} (h : s < T.maps.length) : IsMap T.many (T.maps.getD s []) := by
  rw [List.getD_eq_getElem?_getD, List.getElem?_eq_getElem h]
  exact T.h4 _ (List.getElem_mem h)
theorem isMap_from {T : Tn} : ∀ {w : List Nat} {m : List Nat}, IsMap T.many m → (∀ s ∈ w, s < T.maps.length) → IsMap T.many (mapFrom T m w)
  | [], _, h, _ => h
  | s :: w, m, h, hs => isMap_from (w := w) (m := thenM m (T.maps.getD s [])) (isMap_then h (T.isMap (hs s List.mem_cons_self))) fun s' h' => hs s' (List.mem_cons_of_mem _ h')
theorem isMap_mapW {T : Tn} {w : List Nat} (hs : ∀ s ∈ w, s < T.maps.length) : IsMap T.many (mapW T w) := isMap_from (isMap_id _) hs
theorem getD_at {α : Type} {xs : List α} {i : Nat} {d : α} (h : i < xs.length) : xs[i]? = some (xs.getD i d) := by
  rw [List.getD_eq_getElem?_getD, List.getElem?_eq_getElem h]
  rfl
end El

set_option Elab.async false
set_option linter.all false
set_option maxRecDepth 100000
set_option maxHeartbeats 2000000
namespace El
open PySem PySem.Spec L2
section
variable {X : Cx} (K : PySem.W.Frag)
theorem kfld {e : Expr} {f : Str} {pos : Pos} {ta : TE} (he : PE X e ta) (hb : attributeBase e f X.env (eval e X.env) = eval e X.env) (hK : X.K = K := by rfl) : PE X (.Attribute e f pos) (tFld K ta f) := by
  subst hK
  exact pe_fld he hb
theorem kset {o value : Expr} {f : Str} {pos pos' : Pos} {ta tv : TE} (ha : PE X o ta) (hv : PE X value tv) (hs : swapsWith value (some (.Attribute o f pos')) pos.line X.env = pure false) (hK : X.K = K := by rfl) : PS X (.Assign [.Attribute o f pos'] value pos) (sFld K ta tv f) := by
  subst hK
  exact ps_fld ha hv hs
theorem kaug {o value : Expr} {f : Str} {pos tpos : Pos} {ta tv : TE} {op : Operator} {rd : V → V → Hp → VK → Prop} (ha : PE X o ta) (hv : PE X value tv) (hop : InOp X op rd) (hK : X.K = K := by rfl) : PS X (.AugAssign (.Attribute o f tpos) op value pos) (sFldAug K ta tv rd f) := by
  subst hK
  exact ps_fldaug ha hv hop
theorem klist {tg l : Expr} {tl : TE} (hl : PE X l tl) (hK : X.K = K := by rfl) : PI X tg l (iList K tl) := by
  subst hK
  exact pi_list hl
theorem ktup {tg l : Expr} {tl : TE} (hl : PE X l tl) (hK : X.K = K := by rfl) : PI X tg l (iTup K tl) := by
  subst hK
  exact pi_tup hl
theorem kptup {es : List Expr} {k : Nat} {t : TGs} {n : Nat} {pos : Pos} (hc : X.calm = true) (h : PGs X es t)
    (hn : (assignEach es X.env).length = n := by rfl) (hst : (assignEach es X.env).findIdx? (·.1) = none := by rfl) (hK : X.K = K := by rfl) : PG X (.Tuple es k pos) (gTup K n t) := by
  subst hK
  exact pg_tup hc h hn hst
theorem klenset {a : Expr} {ta : TE} {p p2 q pos : Pos} (hg : Gl X "len") (hm : X.mg "len" = none) (hg2 : Gl X "set") (hm2 : X.mg "set" = none) (ha : PE X a ta) (hc : X.calm = true := by rfl)
    (na : starEach [a] X.env = (false, eval a X.env) :: starEach [] X.env := by rfl) (hK : X.K = K := by rfl) : PE X (.Call (.Name "len" p) [.Call (.Name "set" p2) [a] [] q] [] pos) (tLenSetJ K ta) := by
  subst hK
  exact pe_lenSetJ hg hm hg2 hm2 ha hc na
theorem kenum {e : Expr} {ta : TA} {p pos tpos : Pos} {elts : List Expr} {kk : Nat} (hg : Gl X "enumerate") (hm : X.mg "enumerate" = none) (ha : PA X [e] ta) (hs : starEach [e] X.env = [(false, eval e X.env)] := by rfl) (hK : X.K = K := by rfl) :
    PI X (.Tuple elts kk tpos) (.Call (.Name "enumerate" p) [e] [] pos) (iEnum K ta) := by
  subst hK
  exact pi_enum hg hm ha hs
theorem kbm0 {T : String} {name : Str} {id : String} {r : V → List V → Hp → VK → Prop} {o : Expr} {to : TE} {apos cpos : Pos} (pa : PlainAttrs T) (slot : Slot T name id) (hty : typeOf (.builtin id) = pure (.type "method_descriptor")) (hm : MtR X id r) (ho : PE X o to)
    (hbase : attributeBase o name X.env (eval o X.env) = eval o X.env := by rfl) (hline : (apos.endLine == cpos.line) = true := by rfl) (hK : X.K = K := by rfl) : PE X (.Call (.Attribute o name apos) [] [] cpos) (tBM0 K T r to) := by
  subst hK
  exact pe_bm0 pa slot hty hm ho hbase hline
theorem kbm {T : String} {name : Str} {id : String} {r : V → List V → Hp → VK → Prop} {o e : Expr} {es : List Expr} {to : TE} {t : TA} {apos cpos : Pos} (pa : PlainAttrs T) (slot : Slot T name id) (hty : typeOf (.builtin id) = pure (.type "method_descriptor")) (hm : MtR X id r) (ho : PE X o to) (ha : PA X (e :: es) t)
    (hbase : attributeBase o name X.env (eval o X.env) = eval o X.env := by rfl)
    (hfew : ((backTo cpos (starEach (e :: es) X.env)).all (fun x => !x.1) && (backToKw cpos (keywordEach [] X.env)).all (fun x => x.1.isSome)
      && decide ((e :: es).length + ([] : List Keyword).length + (if ([] : List Keyword).isEmpty then 0 else 1) < 30)) = true := by rfl) 
    (hline : (apos.endLine == cpos.line) = true := by rfl) (hs : starEach (e :: es) X.env = (false, eval e X.env) :: starEach es X.env := by rfl) (hplain : (backTo cpos (starEach es X.env)).any (·.1) = false := by rfl) (hK : X.K = K := by rfl) : PE X (.Call (.Attribute o name apos) (e :: es) [] cpos) (tBM K T r to t) := by
  subst hK
  exact pe_bm pa slot hty hm ho ha hbase hfew hline hs hplain
end
end El

namespace El
open PySem PySem.Spec L2
section
variable {K : PySem.W.Frag} {σ : St} {F H F' H' : Hp} {ta tb tc te tl : TE} {α β : Type} {R : Rp α} {S : Rp β} {x : α} {y : β}
/-- o.f of an instance that may change -/
theorem ev_fldM {f : Str} {a C dx : Addr} {fs : List (Str × V)} {w : V} (ha : Ev rRef ta σ F H a) (ho : H a = some (.ins C dx fs)) (c : Cls K C) (n : NoAttr K C f) (l : fs.lookup f = some w) (s : S F w y) (m : Mn S := by infer_instance) : Ev S (tFld K ta f) σ F H y := fun F1 H1 g1 Q q =>
  ha F1 H1 g1 _ fun v F2 H2 g2 r => ⟨a, C, dx, fs, w, r, g2.hx _ _ (g1.hx _ _ ho), c, n, l, q w F2 H2 g2 (m.mono (g1.ff.trans g2.ff) s)⟩
end
/-! ### draws -/
structure DrAt (CD CT : Addr) (F H : Hp) (a l : Addr) (T : Tn) (m : List Nat) (n : Nat) (ws : List V) : Prop where
  ne : a ≠ l
  fa : F a = none
  fl : F l = none
  ha : ∃ dx tv fv, H a = some (.ins CD dx [("turns", tv), ("found", fv), ("many", .int (n : Int)), ("told", .ref l)]) ∧ rTurns CT F tv T ∧ rTup rNat F fv m
  hl : H l = some (.lst ws)
theorem DrAt.gr {CD CT : Addr} {F H F' H' : Hp} {a l : Addr} {T : Tn} {m : List Nat} {n : Nat} {ws : List V} (d : DrAt CD CT F H a l T m n ws) (g : Gr M0 F H F' H') : DrAt CD CT F' H' a l T m n ws := by
  obtain ⟨ne, fa, fl, ⟨dx, tv, fv, h1, h2, h3⟩, hl⟩ := d
  exact ⟨ne, g.nn h1 fa, g.nn hl fl, ⟨dx, tv, fv, g.hx _ _ h1, Mn.mono g.ff h2, Mn.mono g.ff h3⟩, g.hx _ _ hl⟩
def drStep (T : Tn) (p : List Nat × Nat) (s : Nat) : List Nat × Nat := if metB p.1 = true then p else (thenM (T.maps.getD s []) p.1, p.2 + 1)
def drRun (T : Tn) (w : List Nat) : List Nat × Nat := w.foldl (drStep T) (idMap T.many, 0)
def plc (m : List Nat) : Option Nat := if metB m = true then some (m.headD 0) else none
def drawnM (T : Tn) (w : List Nat) : Option (Nat × Nat) := match plc (drRun T w).1 with
  | none => none
  | some p => some (p, (drRun T w).2)
/-- what begins a draw -/
def SpDraw (CD CT : Addr) : Sp := fun vs H Q _ => ∃ (F : Hp) (a dx : Addr) (tv : V) (T : Tn), vs = [.ref a, tv] ∧ Ex F H ∧ F a = none ∧ H a = some (.ins CD dx []) ∧ rTurns CT F tv T ∧
  ∀ l F' H', Gr (M1 a) F H F' H' → H l = none → DrAt CD CT F' H' a l T (idMap T.many) 0 [] → Q .non H'
def SpElder (CD CT : Addr) : Sp := fun vs H Q _ => ∃ (F : Hp) (a l : Addr) (T : Tn) (m : List Nat) (n : Nat) (ws : List V) (s : Nat), vs = [.ref a, .int (s : Int)] ∧ Ex F H ∧ DrAt CD CT F H a l T m n ws ∧ IsMap T.many m ∧ s < T.maps.length ∧ ws.length ≤ 1000000 ∧
  ∀ v F' H', Gr (fun b => b = a ∨ b = l) F H F' H' → DrAt CD CT F' H' a l T (drStep T (m, n) s).1 (drStep T (m, n) s).2 (ws ++ [.int (s : Int)]) → rOpt rNat F' v (plc (drStep T (m, n) s).1) → Q v H'
def SpPlace (CD CT : Addr) : Sp := fun vs H Q _ => ∃ (F : Hp) (a l : Addr) (T : Tn) (m : List Nat) (n : Nat) (ws : List V), vs = [.ref a] ∧ Ex F H ∧ DrAt CD CT F H a l T m n ws ∧ IsMap T.many m ∧
  ∀ v F' H', Gr M0 F H F' H' → rOpt rNat F' v (plc m) → Q v H'
def SpUsed (CD CT : Addr) : Sp := fun vs H Q _ => ∃ (F : Hp) (a l : Addr) (T : Tn) (m : List Nat) (n : Nat) (ws : List V), vs = [.ref a] ∧ Ex F H ∧ DrAt CD CT F H a l T m n ws ∧
  ∀ v F' H', Gr M0 F H F' H' → rNat F' v n → Q v H'
section
variable {K : PySem.W.Frag} {σ : St} {F H F' H' : Hp} {ta : TE} {CD CT a l : Addr} {T : Tn} {m : List Nat} {n : Nat} {ws : List V} {E : XK}
theorem ev_place (ha : Ev rRef ta σ F H a) (d : DrAt CD CT F H a l T m n ws) (hm : IsMap T.many m) : Ev (rOpt rNat) (tMeth CD "place" (SpPlace CD CT) [] E ta tNil) σ F H (plc m) := fun F1 H1 g1 Q q =>
  ha F1 H1 g1 _ fun v F2 H2 g2 r => by
    cases (show v = _ from r)
    have d2 := d.gr (g1.trans g2)
    obtain ⟨dx, tv, fv, h1, h2, h3⟩ := id d2.ha
    exact ⟨a, dx, _, rfl, h1, rfl, F2, a, l, T, m, n, ws, rfl, g2.fh, d2, hm, fun v F' H' g k => q v F' H' (g2.trans g) k⟩
theorem ev_used (ha : Ev rRef ta σ F H a) (d : DrAt CD CT F H a l T m n ws) : Ev rNat (tMeth CD "used" (SpUsed CD CT) [] E ta tNil) σ F H n := fun F1 H1 g1 Q q =>
  ha F1 H1 g1 _ fun v F2 H2 g2 r => by
    cases (show v = _ from r)
    have d2 := d.gr (g1.trans g2)
    obtain ⟨dx, tv, fv, h1, h2, h3⟩ := id d2.ha
    exact ⟨a, dx, _, rfl, h1, rfl, F2, a, l, T, m, n, ws, rfl, g2.fh, d2, fun v F' H' g k => q v F' H' (g2.trans g) k⟩
end
theorem isMap_step {T : Tn} {p : List Nat × Nat} {s : Nat} (h : IsMap T.many p.1) (hs : s < T.maps.length) : IsMap T.many (drStep T p s).1 := by
  unfold drStep
  split
  · exact h
  · exact isMap_then (T.isMap hs) h
theorem isMap_run {T : Tn} {w : List Nat} (hs : ∀ s ∈ w, s < T.maps.length) : IsMap T.many (drRun T w).1 := by
  have : ∀ (w : List Nat) (p : List Nat × Nat), IsMap T.many p.1 → (∀ s ∈ w, s < T.maps.length) → IsMap T.many (w.foldl (drStep T) p).1 := fun w => by
    induction w with
    | nil => exact fun p h _ => h
    | cons s w ih => exact fun p h hs => ih _ (isMap_step h (hs s List.mem_cons_self)) fun s' h' => hs s' (List.mem_cons_of_mem _ h')
  exact this w _ (isMap_id _) hs
theorem headD_lt {n : Nat} {m : List Nat} (h : IsMap n m) (h0 : 1 ≤ n) : m.headD 0 < n := by
  cases m with
  | nil => have := h.1; simp at this; omega
  | cons a m => exact h.2 a List.mem_cons_self
theorem at0 {m : List Nat} (h : 1 ≤ m.length) : atI m 0 = some (m.headD 0) := by
  cases m with
  | nil => simp at h
  | cons a m => exact atI_natL (n := 0) rfl
end El
namespace El
open PySem PySem.Spec L2
theorem Gr.seq0 {M : Addr → Prop} {F H F1 H1 F2 H2 : Hp} (g : Gr M0 F H F1 H1) (g2 : Gr M F1 H1 F2 H2) (n : ∀ b, M b → H b = none) : Gr M0 F H F2 H2 where
  ff := g.ff.trans g2.ff
  fh := g2.fh
  hh := fun b o _ h => g2.hh b o (fun z => by rw [n b z] at h; cases h) (g.hx b o h)
  nw := fun b _ h f => g2.nw b (fun z => h (n b z)) (g.dm b h) (g.nw b (fun z => z) h f)
  dm := fun b h => g2.dm b (g.dm b h)
/-- a new instance, its dict laid -/
theorem Gr.make {F H F' H' : Hp} {x dx C : Addr} (e : Ex F H) (nx : H x = none) (ndx : H dx = none) (nex : dx ≠ x) (g : Gr (M1 x) F (upd (upd H dx (.own x)) x (.ins C dx [])) F' H') : Gr M0 F H F' H' where
  ff := g.ff
  fh := g.fh
  hh := fun b o _ h => by
    have b1 : b ≠ x := fun z => by subst z; rw [nx] at h; cases h
    have b2 : b ≠ dx := fun z => by subst z; rw [ndx] at h; cases h
    exact g.hh b o b1 (by rw [upd_ne b1, upd_ne b2]; exact h)
  nw := fun b _ h n => by
    have b1 : b ≠ x := fun z => h (z ▸ nx)
    have b2 : b ≠ dx := fun z => h (z ▸ ndx)
    exact g.nw b b1 (by rw [upd_ne b1, upd_ne b2]; exact h) n
  dm := fun b h => by
    have b1 : b ≠ x := fun z => h (z ▸ nx)
    have b2 : b ≠ dx := fun z => h (z ▸ ndx)
    exact g.dm b (by rw [upd_ne b1, upd_ne b2]; exact h)
theorem Ex.make {F H : Hp} {x dx C : Addr} (e : Ex F H) (nx : H x = none) (ndx : H dx = none) : Ex F (upd (upd H dx (.own x)) x (.ins C dx [])) := (e.mut (e.free ndx)).mut (e.free nx)
/-! reading once -/
def roLoop (t : Tn) (long : Nat) (w : List Nat) : Nat → Nat → Option Nat → Option (Nat × Nat)
  | 0, _, _ => none
  | n + 1, k, none => roLoop t long w n (k + 1) (plc (mapW t ((w.drop (k * long)).take long)))
  | n + 1, k, some s => if metB (mapW t ((w.drop (k * long)).take long)) = true then some (s, k + 1) else roLoop t long w n (k + 1) (some ((mapW t ((w.drop (k * long)).take long)).getD s 0))
def readOnceM (t : Tn) (long : Nat) (w : List Nat) : Option (Nat × Nat) := roLoop t long w (w.length / long) 0 none
end El

set_option Elab.async false
set_option linter.all false
set_option maxRecDepth 100000
set_option maxHeartbeats 2000000
namespace El
open PySem PySem.Spec L2
/-! ### what draws of a source -/
def EvS {α : Type} (a : Addr) (c : Nat) (R : Rp α) (te : TE) (σ : St) (F H : Hp) (P : α → Prop) : Prop :=
  ∀ F1 H1 N, Gr (M1 a) F H F1 H1 → F1 a = none → Src H1 a (N + c) → ∀ Q : VK, (∀ v x F2 H2, Gr (M1 a) F1 H1 F2 H2 → F2 a = none → Src H2 a N → P x → R F2 v x → Q v H2) → te σ H1 Q
def EvTS (a : Addr) (c : Nat) (tt : TT) (σ : St) (F H : Hp) (P : Bool → Prop) : Prop :=
  ∀ F1 H1 N, Gr (M1 a) F H F1 H1 → F1 a = none → Src H1 a (N + c) → ∀ Q : Bool → Hp → Prop, (∀ b F2 H2, Gr (M1 a) F1 H1 F2 H2 → F2 a = none → Src H2 a N → P b → Q b H2) → tt σ H1 Q
def SpS0 (c : Nat) {β : Type} (S : Rp β) (P : β → Prop) : Sp := fun vs H Q _ => ∃ F a N, vs = [.ref a] ∧ Ex F H ∧ F a = none ∧ Src H a (N + c) ∧
  ∀ w y F' H', Gr (M1 a) F H F' H' → F' a = none → Src H' a N → P y → S F' w y → Q w H'
def SpS1 (c : Nat) {α β : Type} (R : Rp α) (Pre : α → Prop) (S : Rp β) (P : α → β → Prop) : Sp := fun vs H Q _ => ∃ F a N v x, vs = [.ref a, v] ∧ Ex F H ∧ F a = none ∧ Src H a (N + c) ∧ R F v x ∧ Pre x ∧
  ∀ w y F' H', Gr (M1 a) F H F' H' → F' a = none → Src H' a N → P x y → S F' w y → Q w H'
def SpS2 (c : Nat) {α β γ : Type} (R : Rp α) (R2 : Rp γ) (Pre : α → γ → Prop) (S : Rp β) (P : α → γ → β → Prop) : Sp := fun vs H Q _ => ∃ F a N v u x z, vs = [.ref a, v, u] ∧ Ex F H ∧ F a = none ∧ Src H a (N + c) ∧ R F v x ∧ R2 F u z ∧ Pre x z ∧
  ∀ w y F' H', Gr (M1 a) F H F' H' → F' a = none → Src H' a N → P x z y → S F' w y → Q w H'
class SpLen (sp : Sp) (n : outParam Nat) : Prop where
  len : ∀ {vs H Q E}, sp vs H Q E → vs.length = n
section
variable {α β γ δ ε : Type} {R : Rp α} {S : Rp β} {T : Rp γ} {U : Rp δ} {W : Rp ε}
instance {p : α → Prop} {f : α → β} : SpLen (Sp1 R p S f) 1 := ⟨fun ⟨_, _, _, h, _⟩ => by rw [h]; rfl⟩
instance {p : α → β → Prop} {f : α → β → γ} : SpLen (Sp2 R S p T f) 2 := ⟨fun ⟨_, _, _, _, _, h, _⟩ => by rw [h]; rfl⟩
instance {p : α → β → γ → Prop} {f : α → β → γ → δ} : SpLen (Sp3 R S T p U f) 3 := ⟨fun ⟨_, _, _, _, _, _, _, h, _⟩ => by rw [h]; rfl⟩
instance {p : α → β → γ → δ → Prop} {f : α → β → γ → δ → ε} : SpLen (Sp4 R S T U p W f) 4 := ⟨fun ⟨_, _, _, _, _, _, _, _, _, h, _⟩ => by rw [h]; rfl⟩
instance {c : Nat} {P : β → Prop} : SpLen (SpS0 c S P) 1 := ⟨fun ⟨_, _, _, h, _⟩ => by rw [h]; rfl⟩
instance {c : Nat} {p : α → Prop} {P : α → β → Prop} : SpLen (SpS1 c R p S P) 2 := ⟨fun ⟨_, _, _, _, _, h, _⟩ => by rw [h]; rfl⟩
instance {c : Nat} {p : α → γ → Prop} {P : α → γ → β → Prop} : SpLen (SpS2 c R T p S P) 3 := ⟨fun ⟨_, _, _, _, _, _, _, h, _⟩ => by rw [h]; rfl⟩
instance {a b : Addr} : SpLen (SpDraw a b) 2 := ⟨fun ⟨_, _, _, _, _, h, _⟩ => by rw [h]; rfl⟩
instance {a b : Addr} : SpLen (SpElder a b) 2 := ⟨fun ⟨_, _, _, _, _, _, _, _, h, _⟩ => by rw [h]; rfl⟩
instance {a b : Addr} : SpLen (SpPlace a b) 1 := ⟨fun ⟨_, _, _, _, _, _, _, h, _⟩ => by rw [h]; rfl⟩
instance {a b : Addr} : SpLen (SpUsed a b) 1 := ⟨fun ⟨_, _, _, _, _, _, _, h, _⟩ => by rw [h]; rfl⟩
instance {C : Addr} : SpLen (SpTurns C) 3 := ⟨fun ⟨_, _, _, _, _, h, _⟩ => by rw [h]; rfl⟩
end
section
variable {K : PySem.W.Frag} {σ : St} {F H F' H' : Hp} {ta tb tc te tl : TE} {tt t u : TT} {α β γ δ ε : Type} {R : Rp α} {S : Rp β} {T : Rp γ} {x : α} {y : β} {z : γ} {xs : List α} {a : Addr} {c c1 c2 N : Nat} {P P1 : α → Prop} {P2 : β → Prop} {D : Ends} {ts tu : TS} {E : XK}
theorem EvS.mono {c' : Nat} {P' : α → Prop} (h : EvS a c R te σ F H P) (hp : ∀ x, P x → P' x) (hc : c ≤ c') : EvS a c' R te σ F H P' := fun F1 H1 N g fa s Q q =>
  h F1 H1 (N + (c' - c)) g fa (s.le (by omega)) Q fun v x F2 H2 g2 fa2 s2 p r => q v x F2 H2 g2 fa2 (s2.le (by omega)) (hp x p) r
theorem EvS.gr (h : EvS a c R te σ F H P) (g : Gr (M1 a) F H F' H') : EvS a c R te σ F' H' P := fun F1 H1 N g1 fa s Q q => h F1 H1 N (g.trans g1) fa s Q q
theorem Src.someO {H : Hp} (s : Src H a N) : ∃ o, H a = some o := by
  obtain ⟨n, c, k, h, _⟩ := s
  exact ⟨_, h⟩
theorem es_pure (h : ∀ F1 H1, Gr (M1 a) F H F1 H1 → F1 a = none → Ev R te σ F1 H1 x) : EvS a 0 R te σ F H (fun y => y = x) := fun F1 H1 N g fa s Q q =>
  h F1 H1 g fa F1 H1 (.refl g.fh) Q fun v F2 H2 g2 r => by
    obtain ⟨o, ho⟩ := s.someO
    exact q v x F2 H2 g2.up (g2.nn ho fa) (s.gr g2) rfl r
theorem ets_pure {b : Bool} (h : ∀ F1 H1, Gr (M1 a) F H F1 H1 → F1 a = none → EvT tt σ F1 H1 b) : EvTS a 0 tt σ F H (fun y => y = b) := fun F1 H1 N g fa s Q q =>
  h F1 H1 g fa F1 H1 (.refl g.fh) Q fun F2 H2 g2 => by
    obtain ⟨o, ho⟩ := s.someO
    exact q b F2 H2 g2.up (g2.nn ho fa) (s.gr g2) rfl
theorem es_var {i : Nat} {v : V} (h : σ[i]? = some (some v)) (r : R F v x) (m : Mn R := by infer_instance) : EvS a 0 R (tVar i) σ F H (fun y => y = x) := es_pure fun F1 H1 g _ => ev_var h (m.mono g.ff r)
theorem es_int {i : Int} : EvS a 0 rInt (tC (.int i)) σ F H (fun y => y = i) := es_pure fun _ _ _ _ => ev_int
theorem ev_lit {i : Int} {n : Nat} (h : i = (n : Int) := by rfl) : Ev rNat (tC (.int i)) σ F H n := by
  subst h
  exact ev_int
theorem es_lit {i : Int} {n : Nat} (h : i = (n : Int) := by rfl) : EvS a 0 rNat (tC (.int i)) σ F H (fun y => y = n) := es_pure fun _ _ _ _ => ev_lit h
theorem EvS.nat {P : Nat → Prop} (h : EvS a c rNat te σ F H P) : EvS a c rInt te σ F H (fun i => ∃ n : Nat, i = (n : Int) ∧ P n) := fun F1 H1 N g fa s Q q =>
  h F1 H1 N g fa s Q fun v x F2 H2 g2 fa2 s2 p r => q v (x : Int) F2 H2 g2 fa2 s2 ⟨x, rfl, p⟩ r
theorem EvS.toNat {P : Int → Prop} {P' : Nat → Prop} (h : EvS a c rInt te σ F H P) (hp : ∀ i, P i → ∃ n : Nat, i = (n : Int) ∧ P' n) : EvS a c rNat te σ F H P' := fun F1 H1 N g fa s Q q =>
  h F1 H1 N g fa s Q fun v x F2 H2 g2 fa2 s2 p r => by
    obtain ⟨n, rfl, p'⟩ := hp x p
    exact q v n F2 H2 g2 fa2 s2 p' r
/-- two parts, one behind the other -/
theorem es_two {r : R2} {P' : γ → Prop} (ha : EvS a c1 R ta σ F H P1) (hb : EvS a c2 S tb σ F H P2) (m : Mn R)
    (k : ∀ F3 H3 N v w x y (Q : VK), Ex F3 H3 → F3 a = none → Src H3 a N → P1 x → P2 y → R F3 v x → S F3 w y → (∀ u z F4 H4, Gr M0 F3 H3 F4 H4 → P' z → T F4 u z → Q u H4) → r v w H3 Q) : EvS a (c1 + c2) T (tOp r ta tb) σ F H P' := fun F1 H1 N g fa s Q q =>
  ha F1 H1 (N + c2) g fa (s.le (by omega)) _ fun v x F2 H2 g2 fa2 s2 p1 r1 => hb F2 H2 N (g.trans g2) fa2 s2 _ fun w y F3 H3 g3 fa3 s3 p2 r2 =>
    k F3 H3 N v w x y Q g3.fh fa3 s3 p1 p2 (m.mono g3.ff r1) r2 fun u z F4 H4 g4 p4 r4 => by
      obtain ⟨o, ho⟩ := s3.someO
      exact q u z F4 H4 ((g2.trans g3).trans g4.up) (g4.nn ho fa3) (s3.gr g4) p4 r4
theorem es_I0 {P1 P2 : Int → Prop} {g : Int → Int → V} {f : Int → Int → γ} (ha : EvS a c1 rInt ta σ F H P1) (hb : EvS a c2 rInt tb σ F H P2) (hz : ∀ F i j, T F (g i j) (f i j)) : EvS a (c1 + c2) T (tOp (rI0 g) ta tb) σ F H (fun z => ∃ i j, P1 i ∧ P2 j ∧ z = f i j) :=
  es_two ha hb inferInstance fun F3 H3 N v w i j Q e fa s p1 p2 r1 r2 q => ⟨i, j, r1, r2, q _ _ F3 H3 (.refl e) ⟨i, j, p1, p2, rfl⟩ (hz F3 i j)⟩
theorem es_I {P1 P2 : Int → Prop} {C : Int → Int → Prop} {g : Int → Int → V} {f : Int → Int → γ} (ha : EvS a c1 rInt ta σ F H P1) (hb : EvS a c2 rInt tb σ F H P2) (hc : ∀ i j, P1 i → P2 j → C i j) (hz : ∀ F i j, T F (g i j) (f i j)) : EvS a (c1 + c2) T (tOp (rI C g) ta tb) σ F H (fun z => ∃ i j, P1 i ∧ P2 j ∧ z = f i j) :=
  es_two ha hb inferInstance fun F3 H3 N v w i j Q e fa s p1 p2 r1 r2 q => ⟨i, j, r1, r2, hc i j p1 p2, q _ _ F3 H3 (.refl e) ⟨i, j, p1, p2, rfl⟩ (hz F3 i j)⟩
theorem es_add {P1 P2 : Int → Prop} (ha : EvS a c1 rInt ta σ F H P1) (hb : EvS a c2 rInt tb σ F H P2) : EvS a (c1 + c2) rInt (tOp (rI0 fun i j => .int (i + j)) ta tb) σ F H (fun z => ∃ i j, P1 i ∧ P2 j ∧ z = i + j) := es_I0 ha hb fun _ _ _ => rfl
theorem es_sub {P1 P2 : Int → Prop} (ha : EvS a c1 rInt ta σ F H P1) (hb : EvS a c2 rInt tb σ F H P2) : EvS a (c1 + c2) rInt (tOp (rI0 fun i j => .int (i - j)) ta tb) σ F H (fun z => ∃ i j, P1 i ∧ P2 j ∧ z = i - j) := es_I0 ha hb fun _ _ _ => rfl
theorem es_mul {P1 P2 : Int → Prop} (ha : EvS a c1 rInt ta σ F H P1) (hb : EvS a c2 rInt tb σ F H P2) (hc : ∀ i j, P1 i → P2 j → CMul i j) : EvS a (c1 + c2) rInt (tOp (rI CMul fun i j => .int (i * j)) ta tb) σ F H (fun z => ∃ i j, P1 i ∧ P2 j ∧ z = i * j) := es_I ha hb hc fun _ _ _ => rfl
theorem es_eqI {P1 P2 : Int → Prop} (ha : EvS a c1 rInt ta σ F H P1) (hb : EvS a c2 rInt tb σ F H P2) : EvS a (c1 + c2) rBl (tOp rEq ta tb) σ F H (fun z => ∃ i j, P1 i ∧ P2 j ∧ z = decide (i = j)) :=
  es_two ha hb inferInstance fun F3 H3 N v w i j Q e fa s p1 p2 r1 r2 q => by
    cases (show v = _ from r1)
    cases (show w = _ from r2)
    refine ⟨rfl, ?_⟩
    have e1 : decide (V.int i = V.int j) = decide (i = j) := by simp
    rw [e1]
    exact q _ _ F3 H3 (.refl e) ⟨i, j, p1, p2, rfl⟩ rfl
theorem es_gtI {P1 P2 : Int → Prop} (ha : EvS a c1 rInt ta σ F H P1) (hb : EvS a c2 rInt tb σ F H P2) : EvS a (c1 + c2) rBl (tOp (rI0 fun i j => .bl (decide (j < i))) ta tb) σ F H (fun z => ∃ i j, P1 i ∧ P2 j ∧ z = decide (j < i)) := es_I0 ha hb fun _ _ _ => rfl
/-- an item of a frozen list, at a drawn place -/
theorem es_ixL {P2 : Int → Prop} (ha : ∀ F1 H1, Gr (M1 a) F H F1 H1 → F1 a = none → Ev (rLst R) ta σ F1 H1 xs) (hb : EvS a c rInt tb σ F H P2) (h : ∀ i, P2 i → ∃ x, atI xs i = some x) (m : Mn R := by infer_instance) : EvS a c R (tOp (rIxL K) ta tb) σ F H (fun x => ∃ i, P2 i ∧ atI xs i = some x) :=
  (es_two (es_pure ha) hb inferInstance fun F3 H3 N v w ys i Q e fa s p1 p2 ⟨b, vs, eb, hl, p⟩ r2 q => by
    subst p1
    obtain ⟨x, hx⟩ := h i p2
    obtain ⟨y, hy, ry⟩ := atI_paired p hx
    exact ⟨b, vs, i, y, eb, r2, SqL.of (e _ _ hl), hy, q y x F3 H3 (.refl e) ⟨i, p2, hx⟩ ry⟩).mono (fun _ h => h) (by omega)
theorem es_pr {P1 : α → Prop} (ha : EvS a c1 R ta σ F H P1) (hb : EvS a c2 S tb σ F H P2) (m : Mn R := by infer_instance) (n : Mn S := by infer_instance) : EvS a (c1 + c2) (rPr R S) (tTup (tCons ta (tCons tb tNil))) σ F H (fun p => P1 p.1 ∧ P2 p.2) := fun F1 H1 N g fa s Q q =>
  ha F1 H1 (N + c2) g fa (s.le (by omega)) _ fun v x F2 H2 g2 fa2 s2 p1 r1 => hb F2 H2 N (g.trans g2) fa2 s2 _ fun w y F3 H3 g3 fa3 s3 p2 r2 => ⟨by show 2 ≤ sizeLine; decide, fun B hB => by
    have g4 : Gr M0 F3 H3 (upd F3 B (.tup [v, w])) (upd H3 B (.tup [v, w])) := .new g3.fh hB
    obtain ⟨o, ho⟩ := s3.someO
    exact q _ (x, y) _ _ ((g2.trans g3).trans g4.up) (g4.nn ho fa3) (s3.gr g4) ⟨p1, p2⟩ ⟨B, v, w, rfl, upd_same, m.mono (g3.ff.trans g4.ff) r1, n.mono g4.ff r2⟩⟩
theorem es_tupL {P : List α → Prop} (ha : EvS a c (rLst R) ta σ F H P) (m : Mn R := by infer_instance) : EvS a c (rTup R) (tCB (rTupS K) (tCons ta tNil)) σ F H P := fun F1 H1 N g fa s Q q =>
  ha F1 H1 N g fa s _ fun v x F2 H2 g2 fa2 s2 p ⟨b, vs, e, hl, pr⟩ => ⟨b, vs, by rw [e], .inl ⟨SqL.of (g2.fh _ _ hl), fun B hB => by
    have g4 : Gr M0 F2 H2 (upd F2 B (.tup vs)) (upd H2 B (.tup vs)) := .new g2.fh hB
    obtain ⟨o, ho⟩ := s2.someO
    exact q _ x _ _ (g2.trans g4.up) (g4.nn ho fa2) (s2.gr g4) p ⟨B, vs, rfl, upd_same, Paired.up g4.ff pr⟩⟩⟩
/-! calls -/
theorem es_call0 {i : Nat} (hv : σ[i]? = some (some (.ref a))) : EvS a c S (tCall (SpS0 c S P2) [] E (tCons (tVar i) tNil)) σ F H P2 := fun F1 H1 N g fa s Q q =>
  ⟨.ref a, hv, F1, a, N, rfl, g.fh, fa, s, fun w y F' H' g' fa' s' p r => q w y F' H' g' fa' s' p r⟩
theorem es_call1 {i : Nat} {Pre : α → Prop} {P' : α → β → Prop} (hv : σ[i]? = some (some (.ref a))) (hb : EvS a c2 R tb σ F H P1) (hp : ∀ x, P1 x → Pre x) : EvS a (c2 + c) S (tCall (SpS1 c R Pre S P') [] E (tCons (tVar i) (tCons tb tNil))) σ F H (fun y => ∃ x, P1 x ∧ P' x y) := fun F1 H1 N g fa s Q q =>
  ⟨.ref a, hv, hb F1 H1 (N + c) g fa (s.le (by omega)) _ fun v x F2 H2 g2 fa2 s2 p r => ⟨F2, a, N, v, x, rfl, g2.fh, fa2, s2, r, hp x p, fun w y F' H' g' fa' s' p' r' => q w y F' H' (g2.trans g') fa' s' ⟨x, p, p'⟩ r'⟩⟩
theorem es_call2 {i : Nat} {Pre : α → γ → Prop} {P' : α → γ → β → Prop} {P3 : γ → Prop} {c3 : Nat} (hv : σ[i]? = some (some (.ref a))) (hb : EvS a c2 R tb σ F H P1) (hc : EvS a c3 T tc σ F H P3) (hp : ∀ x z, P1 x → P3 z → Pre x z) (m : Mn R := by infer_instance) : EvS a (c2 + c3 + c) S (tCall (SpS2 c R T Pre S P') [] E (tCons (tVar i) (tCons tb (tCons tc tNil)))) σ F H (fun y => ∃ x z, P1 x ∧ P3 z ∧ P' x z y) := fun F1 H1 N g fa s Q q =>
  ⟨.ref a, hv, hb F1 H1 (N + c3 + c) g fa (s.le (by omega)) _ fun v x F2 H2 g2 fa2 s2 p r => hc F2 H2 (N + c) (g.trans g2) fa2 (s2.le (by omega)) _ fun u z F3 H3 g3 fa3 s3 p3 r3 => ⟨F3, a, N, v, u, x, z, rfl, g3.fh, fa3, s3, m.mono g3.ff r, r3, hp x z p p3, fun w y F' H' g' fa' s' p' r' => q w y F' H' ((g2.trans g3).trans g') fa' s' ⟨x, z, p, p3, p'⟩ r'⟩⟩
/-! [elt for k in range(n)] -/
theorem es_lcR {j B : Nat} {vs : List Nat} {P1 : Int → Prop} {P2 : Nat → β → Prop} (h : EvS a c1 rInt ta σ F H P1) (hn : ∀ n, P1 n → 0 ≤ n ∧ n ≤ (B : Int)) (hB : B ≤ 1000000) (hw : ∀ v, wipe ((wipe σ vs).set j (some v)) vs = wipe σ vs)
    (he : ∀ i : Nat, i < B → ∀ F1 H1, Gr (M1 a) F H F1 H1 → F1 a = none → EvS a c2 S te ((wipe σ vs).set j (some (.int (i : Int)))) F1 H1 (P2 i)) (m' : Mn S := by infer_instance) :
    EvS a (c1 + B * c2) (rLst S) (tLc (iRng1 (tCons ta tNil)) (gName j) tYes te vs) σ F H (fun l => ∃ n, P1 n ∧ (l.length : Int) = n ∧ ∀ (i : Nat) x, l[i]? = some x → P2 i x) := by
  intro F1 H1 N g1 fa s Q q
  refine h F1 H1 (N + B * c2) g1 fa (s.le (by omega)) _ fun v n F2 H2 g2 fa2 s2 p ea => ?_
  obtain ⟨n0, n1⟩ := hn n p
  refine ⟨n, by rw [show v = _ from ea], by omega, by omega, fun B' hD => ?_⟩
  obtain ⟨k, hk⟩ : ∃ k : Nat, n = (k : Int) := ⟨n.toNat, by omega⟩
  subst hk
  rw [Int.toNat_natCast]
  have hne : B' ≠ a := fun z => by
    subst z
    exact s2.hn hD
  refine lc_range (lo := 0) (n := k) (fun i H' => ∃ F' us l, Gr (M1 a) F2 H2 F' H' ∧ F' a = none ∧ Src H' a (N + (B - i) * c2) ∧ F' B' = none ∧ H' B' = some (.lst us) ∧ l.length = i ∧ Paired (S F') us l ∧ ∀ (t : Nat) x, l[t]? = some x → P2 t x)
    ⟨F2, [], [], .loc g2.fh hD, fa2, (by rw [Nat.sub_zero]; exact s2.ex (upd_ne hne.symm)), g2.fh.free hD, upd_same, rfl, .nil, fun t x hx => by simp at hx⟩ ?_ ?_
  · rintro i H' hi ⟨F', us, l, g, fa', s', fD, hD', hl, pu, hP⟩
    have e0 : (0 : Int) + (i : Int) = (i : Int) := Int.zero_add _
    rw [e0]
    refine ⟨hw _, ?_⟩
    have hb : (B - i) * c2 = (B - (i + 1)) * c2 + c2 := by
      rw [show B - i = (B - (i + 1)) + 1 by omega, Nat.succ_mul]
    refine he i (by omega) F' H' ((g1.trans g2).trans g) fa' F' H' (N + (B - (i + 1)) * c2) (.refl g.fh) fa' (s'.le (by omega)) _ fun u y F3 H3 g3 fa3 s3 py r3 => ?_
    have hD3 : H3 B' = some (.lst us) := g3.hh _ _ hne hD'
    have fD3 : F3 B' = none := g3.nw B' hne (by rw [hD']; exact fun z => nomatch z) fD
    refine ⟨us, hD3, ?_, F3, us ++ [u], l ++ [y], (g.trans g3).set' fD3 (.inl hD), fa3, s3.ex (upd_ne hne.symm), fD3, upd_same, by rw [List.length_append, hl]; rfl, (Paired.up g3.ff pu).snoc r3, ?_⟩
    · rw [pu.length, hl, sizeLine_eq]
      omega
    · intro t x hx
      by_cases ht : t < l.length
      · rw [List.getElem?_append_left ht] at hx
        exact hP t x hx
      · have ht2 : t < (l ++ [y]).length := (List.getElem?_eq_some_iff.mp hx).1
        rw [List.length_append] at ht2
        have e1 : t = l.length := by simp at ht2; omega
        subst e1
        rw [List.getElem?_append_right (Nat.le_refl _), Nat.sub_self] at hx
        cases hx
        rw [hl]
        exact py
  · rintro H' ⟨F', us, l, g, fa', s', fD, hD', hl, pu, hP⟩
    exact q _ l _ _ (g2.trans (g.frz hD' (g2.fh.free hD) (.inl hD))) (by rw [upd_ne hne.symm]; exact fa') (s'.le (Nat.le_add_right _ _)) ⟨(k : Int), p, by rw [hl], hP⟩ ⟨B', us, rfl, upd_same, Paired.up (g.fh.frz hD' fD) pu⟩
theorem es_callP {i : Nat} {Pre : α → Prop} {P' : α → β → Prop} (hv : σ[i]? = some (some (.ref a))) (hb : ∀ F1 H1, Gr (M1 a) F H F1 H1 → F1 a = none → Ev R tb σ F1 H1 x) (hp : Pre x) : EvS a c S (tCall (SpS1 c R Pre S P') [] E (tCons (tVar i) (tCons tb tNil))) σ F H (fun y => P' x y) :=
  (es_call1 hv (es_pure hb) (fun z e => by rw [e]; exact hp)).mono (fun y ⟨z, e, p⟩ => by rw [← e]; exact p) (by omega)
theorem es_callP2 {i : Nat} {Pre : α → γ → Prop} {P' : α → γ → β → Prop} (hv : σ[i]? = some (some (.ref a))) (hb : ∀ F1 H1, Gr (M1 a) F H F1 H1 → F1 a = none → Ev R tb σ F1 H1 x) (hc : ∀ F1 H1, Gr (M1 a) F H F1 H1 → F1 a = none → Ev T tc σ F1 H1 z) (hp : Pre x z) (m : Mn R := by infer_instance) : EvS a c S (tCall (SpS2 c R T Pre S P') [] E (tCons (tVar i) (tCons tb (tCons tc tNil)))) σ F H (fun y => P' x z y) :=
  (es_call2 hv (es_pure hb) (es_pure hc) (fun u w e e2 => by rw [e, e2]; exact hp) m).mono (fun y ⟨u, w, e, e2, p⟩ => by rw [← e, ← e2]; exact p) (by omega)
theorem es_lcRP {j n B : Nat} {vs : List Nat} {P2 : Nat → β → Prop} (h : ∀ F1 H1, Gr (M1 a) F H F1 H1 → F1 a = none → Ev rInt ta σ F1 H1 (n : Int)) (hn : n ≤ B) (hB : B ≤ 1000000) (hw : ∀ v, wipe ((wipe σ vs).set j (some v)) vs = wipe σ vs)
    (he : ∀ i : Nat, i < n → ∀ F1 H1, Gr (M1 a) F H F1 H1 → F1 a = none → EvS a c2 S te ((wipe σ vs).set j (some (.int (i : Int)))) F1 H1 (P2 i)) (m' : Mn S := by infer_instance) :
    EvS a (B * c2) (rLst S) (tLc (iRng1 (tCons ta tNil)) (gName j) tYes te vs) σ F H (fun l => l.length = n ∧ ∀ (i : Nat) x, l[i]? = some x → P2 i x) :=
  (es_lcR (B := n) (es_pure h) (fun k e => by rw [e]; omega) (by omega) hw he m').mono (fun l ⟨k, e, hl, p⟩ => ⟨by omega, p⟩) (by rw [Nat.zero_add]; exact Nat.mul_le_mul_right _ hn)
/-! tests -/
theorem ets_test {P : Bool → Prop} (h : EvS a c rBl te σ F H P) : EvTS a c (tTest te) σ F H P := fun F1 H1 N g fa s Q q => h F1 H1 N g fa s _ fun v b F2 H2 g2 fa2 s2 p r => ⟨b, r, q b F2 H2 g2 fa2 s2 p⟩
theorem ets_B {P : Bool → Prop} (h : EvS a c rBl te σ F H P) : EvTS a c (tB te) σ F H P := fun F1 H1 N g fa s Q q => h F1 H1 N g fa s _ fun v b F2 H2 g2 fa2 s2 p r => ⟨b, r, q b F2 H2 g2 fa2 s2 p⟩
theorem ets_and {P1 P2 : Bool → Prop} (h1 : EvTS a c1 t σ F H P1) (h2 : EvTS a c2 u σ F H P2) : EvTS a (c1 + c2) (tAnd t u) σ F H (fun b => b = true → P1 true ∧ P2 true) := fun F1 H1 N g fa s Q q =>
  h1 F1 H1 (N + c2) g fa (s.le (by omega)) _ fun b F2 H2 g2 fa2 s2 p => by
    cases b with
    | true => exact h2 F2 H2 N (g.trans g2) fa2 s2 _ fun b F3 H3 g3 fa3 s3 p3 => q b F3 H3 (g2.trans g3) fa3 s3 fun e => ⟨p, e ▸ p3⟩
    | false => exact q false F2 H2 g2 fa2 (s2.le (by omega)) fun e => nomatch e
/-! statements -/
theorem x_setS {i : Nat} (h : EvS a c R te σ F H P) (e : Ex F H) (fa : F a = none) (s : Src H a N) (hc : c ≤ N) (k : ∀ v x F' H', Gr (M1 a) F H F' H' → F' a = none → Src H' a (N - c) → P x → R F' v x → D.nx (σ.set i (some v)) H') : tAsg te (gName i) D σ H :=
  h F H (N - c) (.refl e) fa (s.le (by omega)) _ fun v x F' H' g fa' s' p r => k v x F' H' g fa' s' p r
theorem x_retS (h : EvS a c R te σ F H P) (e : Ex F H) (fa : F a = none) (s : Src H a N) (hc : c ≤ N) (k : ∀ v x F' H', Gr (M1 a) F H F' H' → F' a = none → Src H' a (N - c) → P x → R F' v x → D.rt v H') : tRet te D σ H :=
  h F H (N - c) (.refl e) fa (s.le (by omega)) _ fun v x F' H' g fa' s' p r => k v x F' H' g fa' s' p r
theorem x_ifS {P : Bool → Prop} (h : EvTS a c t σ F H P) (e : Ex F H) (fa : F a = none) (s : Src H a N) (hc : c ≤ N) (k1 : P true → ∀ F' H', Gr (M1 a) F H F' H' → F' a = none → Src H' a (N - c) → ts D σ H') (k2 : P false → ∀ F' H', Gr (M1 a) F H F' H' → F' a = none → Src H' a (N - c) → tu D σ H') : tIfS t ts tu D σ H :=
  h F H (N - c) (.refl e) fa (s.le (by omega)) _ fun b F' H' g fa' s' p => by
    cases b with
    | true => exact k1 p F' H' g fa' s'
    | false => exact k2 p F' H' g fa' s'
/-- x, y = e, e a pair -/
theorem x_pairS {i j : Nat} {P : α × β → Prop} (h : EvS a c (rPr R S) te σ F H P) (e : Ex F H) (fa : F a = none) (s : Src H a N) (hc : c ≤ N)
    (k : ∀ v w x F' H', Gr (M1 a) F H F' H' → F' a = none → Src H' a (N - c) → P x → R F' v x.1 → S F' w x.2 → D.nx ((σ.set i (some v)).set j (some w)) H') : tAsg te (gTup K 2 (gCons (gName i) (gCons (gName j) gNil))) D σ H :=
  h F H (N - c) (.refl e) fa (s.le (by omega)) _ fun v x F' H' g fa' s' p ⟨b, u, w, eb, hb, r1, r2⟩ => by
    subst eb
    refine ⟨b, [u, w], rfl, SqT.of (g.fh _ _ hb), rfl, u, [w], rfl, w, [], rfl, rfl, ?_⟩
    exact k u w x F' H' g fa' s' p r1 r2
end
end El

set_option Elab.async false
set_option linter.all false
set_option maxRecDepth 100000
set_option maxHeartbeats 2000000
namespace El
open PySem PySem.Spec L2
/-! ### == of data -/
class Dt {α : Type} (R : Rp α) where
  data : α → PyData
  rep : ∀ {K : PySem.W.Frag} {F H : Hp} {v : V} {x : α}, Ex F H → R F v x → Dp K H v (data x)
  lay : ∀ x, (data x).canLay0 = true
  dep : Nat
  depth : ∀ x, (data x).depth ≤ dep
  eqv : ∀ x y, PyData.eqv (data x) (data y) = true ↔ x = y
instance : Dt rInt where
  data := .int
  rep := fun e r => by cases (show _ = _ from r); exact .int _
  lay := fun _ => rfl
  dep := 0
  depth := fun _ => Nat.le_refl _
  eqv := fun x y => by show (x == y) = true ↔ x = y; exact beq_iff_eq
instance : Dt rNat where
  data := fun n => .int (n : Int)
  rep := fun e r => by cases (show _ = _ from r); exact .int _
  lay := fun _ => rfl
  dep := 0
  depth := fun _ => Nat.le_refl _
  eqv := fun x y => by show ((x : Int) == (y : Int)) = true ↔ x = y; rw [beq_iff_eq]; omega
instance : Dt rBl where
  data := .bool
  rep := fun e r => by cases (show _ = _ from r); exact .bl _
  lay := fun _ => rfl
  dep := 0
  depth := fun _ => Nat.le_refl _
  eqv := fun x y => by show (x == y) = true ↔ x = y; exact beq_iff_eq
theorem dpAll {α : Type} {R : Rp α} [d : Dt R] {K : PySem.W.Frag} {F H : Hp} (e : Ex F H) : ∀ {vs : List V} {xs : List α}, Paired (R F) vs xs → DpAll K H vs (xs.map d.data)
  | _, _, .nil => .nil
  | _, _, .cons r t => .cons (d.rep e r) (dpAll e t)
theorem layAll {α : Type} {R : Rp α} [d : Dt R] : ∀ xs : List α, PyData.canLayAll0 (xs.map d.data) = true
  | [] => rfl
  | x :: xs => by
    show (PyData.canLay0 (d.data x) && PyData.canLayAll0 (xs.map d.data)) = true
    rw [d.lay x, layAll xs]
    rfl
theorem depAll {α : Type} {R : Rp α} [d : Dt R] : ∀ xs : List α, PyData.depthAll (xs.map d.data) ≤ d.dep
  | [] => Nat.zero_le _
  | x :: xs => by
    show max (PyData.depth (d.data x)) (PyData.depthAll (xs.map d.data)) ≤ _
    exact Nat.max_le.mpr ⟨d.depth x, depAll xs⟩
theorem eqvAllD {α : Type} {R : Rp α} [d : Dt R] : ∀ xs ys : List α, PyData.eqvAll (xs.map d.data) (ys.map d.data) = true ↔ xs = ys
  | [], [] => by simp [PyData.eqvAll]
  | x :: xs, [] => by simp [PyData.eqvAll]
  | [], y :: ys => by simp [PyData.eqvAll]
  | x :: xs, y :: ys => by
    show (PyData.eqv (d.data x) (d.data y) && PyData.eqvAll (xs.map d.data) (ys.map d.data)) = true ↔ _
    rw [Bool.and_eq_true, d.eqv, eqvAllD xs ys, List.cons.injEq]
instance {α : Type} {R : Rp α} [d : Dt R] : Dt (rLst R) where
  data := fun xs => .list (xs.map d.data)
  rep := fun e ⟨a, vs, h1, h2, h3⟩ => by subst h1; exact .lst (SqL.of (e _ _ h2)) (dpAll e h3)
  lay := fun xs => by show PyData.canLayAll0 _ = true; exact layAll xs
  dep := d.dep + 1
  depth := fun xs => by show PyData.depthAll _ + 1 ≤ _; exact Nat.succ_le_succ (depAll xs)
  eqv := fun xs ys => by show PyData.eqvAll _ _ = true ↔ _; exact eqvAllD xs ys
instance {α : Type} {R : Rp α} [d : Dt R] : Dt (rTup R) where
  data := fun xs => .tuple (xs.map d.data)
  rep := fun e ⟨a, vs, h1, h2, h3⟩ => by subst h1; exact .tup (SqT.of (e _ _ h2)) (dpAll e h3)
  lay := fun xs => by show PyData.canLayAll0 _ = true; exact layAll xs
  dep := d.dep + 1
  depth := fun xs => by show PyData.depthAll _ + 1 ≤ _; exact Nat.succ_le_succ (depAll xs)
  eqv := fun xs ys => by show PyData.eqvAll _ _ = true ↔ _; exact eqvAllD xs ys
instance {α β : Type} {R : Rp α} {S : Rp β} [d : Dt R] [f : Dt S] : Dt (rPr R S) where
  data := fun p => .tuple [d.data p.1, f.data p.2]
  rep := fun e ⟨a, x, y, h1, h2, h3, h4⟩ => by subst h1; exact .tup (SqT.of (e _ _ h2)) (.cons (d.rep e h3) (.cons (f.rep e h4) .nil))
  lay := fun p => by
    show (PyData.canLay0 _ && (PyData.canLay0 _ && true)) = true
    rw [d.lay, f.lay]
    rfl
  dep := max d.dep f.dep + 1
  depth := fun p => by
    show max (PyData.depth (d.data p.1)) (max (PyData.depth (f.data p.2)) 0) + 1 ≤ _
    have := d.depth p.1
    have := f.depth p.2
    omega
  eqv := fun p q => by
    show (PyData.eqv _ _ && (PyData.eqv _ _ && true)) = true ↔ _
    rw [Bool.and_true, Bool.and_eq_true, d.eqv, f.eqv, Prod.ext_iff]
class NotNoneD {α : Type} (R : Rp α) [d : Dt R] : Prop where
  nn : ∀ x, d.data x ≠ .none
instance : NotNoneD rInt := ⟨fun _ => fun z => nomatch z⟩
instance : NotNoneD rNat := ⟨fun _ => fun z => nomatch z⟩
instance : NotNoneD rBl := ⟨fun _ => fun z => nomatch z⟩
instance {α : Type} {R : Rp α} [d : Dt R] : NotNoneD (rLst R) := ⟨fun _ => fun z => nomatch z⟩
instance {α : Type} {R : Rp α} [d : Dt R] : NotNoneD (rTup R) := ⟨fun _ => fun z => nomatch z⟩
instance {α β : Type} {R : Rp α} {S : Rp β} [d : Dt R] [f : Dt S] : NotNoneD (rPr R S) := ⟨fun _ => fun z => nomatch z⟩
theorem eqv_none {d : PyData} (h : d ≠ .none) : PyData.eqv .none d = false ∧ PyData.eqv d .none = false := by
  cases d with
  | none => exact absurd rfl h
  | bool _ => exact ⟨rfl, rfl⟩
  | int _ => exact ⟨rfl, rfl⟩
  | str _ => exact ⟨rfl, rfl⟩
  | list _ => exact ⟨rfl, rfl⟩
  | tuple _ => exact ⟨rfl, rfl⟩
  | dict _ => exact ⟨rfl, rfl⟩
instance {α : Type} {R : Rp α} [d : Dt R] [n : NotNoneD R] : Dt (rOpt R) where
  data := fun x => match x with
    | none => .none
    | some y => d.data y
  rep := fun {K F H v x} e r => by
    cases x with
    | none => cases (show _ = _ from r); exact .non
    | some y => exact d.rep e r
  lay := fun x => by
    cases x with
    | none => rfl
    | some y => exact d.lay y
  dep := d.dep
  depth := fun x => by
    cases x with
    | none => exact Nat.zero_le _
    | some y => exact d.depth y
  eqv := fun x y => by
    cases x with
    | none =>
      cases y with
      | none => exact ⟨fun _ => rfl, fun _ => rfl⟩
      | some y => exact ⟨(fun h => by rw [(eqv_none (n.nn y)).1] at h; exact Bool.noConfusion h), (fun h => nomatch h)⟩
    | some x =>
      cases y with
      | none => exact ⟨(fun h => by rw [(eqv_none (n.nn x)).2] at h; exact Bool.noConfusion h), (fun h => nomatch h)⟩
      | some y => exact (d.eqv x y).trans ⟨fun h => by rw [h], fun h => Option.some.inj h⟩
section
variable {K : PySem.W.Frag} {σ : St} {F H F' H' : Hp} {ta tb tc te tl : TE} {α β : Type} {R : Rp α} {S : Rp β} {x y : α} {xs : List α}
theorem shapedD (d : Dt R) (h : d.dep ≤ 64) (x : α) : SeqAt.shaped (d.data x) = true := by
  show (PyData.canLay0 _ && decide _) = true
  rw [d.lay, decide_eq_true (Nat.le_trans (d.depth x) h)]
  rfl
theorem ev_eqD [DecidableEq α] (ha : Ev R ta σ F H x) (hb : Ev R tb σ F H y) (d : Dt R := by infer_instance) (m : Mn R := by infer_instance) (h : d.dep ≤ 64 := by decide) : Ev rBl (tOp (rEqD K) ta tb) σ F H (decide (x = y)) := fun F1 H1 g1 Q q =>
  ha F1 H1 g1 _ fun v F2 H2 g2 r => hb F2 H2 (g1.trans g2) _ fun w F3 H3 g3 r3 => ⟨d.data x, d.data y, d.rep g3.fh (m.mono g3.ff r), d.rep g3.fh r3, shapedD d h x, shapedD d h y, by
    have e : PyData.eqv (d.data x) (d.data y) = decide (x = y) := by
      by_cases z : x = y
      · rw [decide_eq_true z]; exact (d.eqv x y).mpr z
      · rw [decide_eq_false z]
        cases q : PyData.eqv (d.data x) (d.data y) with
        | false => rfl
        | true => exact absurd ((d.eqv x y).mp q) z
    rw [e]
    exact q _ F3 H3 (g2.trans g3) rfl⟩
theorem ev_neD [DecidableEq α] (ha : Ev R ta σ F H x) (hb : Ev R tb σ F H y) (d : Dt R := by infer_instance) (m : Mn R := by infer_instance) (h : d.dep ≤ 64 := by decide) : Ev rBl (tOp (rNeD K) ta tb) σ F H (!decide (x = y)) := fun F1 H1 g1 Q q =>
  ha F1 H1 g1 _ fun v F2 H2 g2 r => hb F2 H2 (g1.trans g2) _ fun w F3 H3 g3 r3 => ⟨d.data x, d.data y, d.rep g3.fh (m.mono g3.ff r), d.rep g3.fh r3, shapedD d h x, shapedD d h y, by
    have e : PyData.eqv (d.data x) (d.data y) = decide (x = y) := by
      by_cases z : x = y
      · rw [decide_eq_true z]; exact (d.eqv x y).mpr z
      · rw [decide_eq_false z]
        cases q : PyData.eqv (d.data x) (d.data y) with
        | false => rfl
        | true => exact absurd ((d.eqv x y).mp q) z
    rw [e]
    exact q _ F3 H3 (g2.trans g3) rfl⟩
theorem ev_neB {a b : Bool} (ha : Ev rBl ta σ F H a) (hb : Ev rBl tb σ F H b) : Ev rBl (tOp rNe ta tb) σ F H (!decide (a = b)) := fun F1 H1 g1 Q q =>
  ha F1 H1 g1 _ fun v F2 H2 g2 r => hb F2 H2 (g1.trans g2) _ fun w F3 H3 g3 r2 => by
    cases (show v = V.bl a from r)
    cases (show w = V.bl b from r2)
    refine ⟨rfl, ?_⟩
    have e : decide (V.bl a = V.bl b) = decide (a = b) := by simp
    rw [e]
    exact q _ F3 H3 (g2.trans g3) rfl
theorem ev_eqB {a b : Bool} (ha : Ev rBl ta σ F H a) (hb : Ev rBl tb σ F H b) : Ev rBl (tOp rEq ta tb) σ F H (decide (a = b)) := fun F1 H1 g1 Q q =>
  ha F1 H1 g1 _ fun v F2 H2 g2 r => hb F2 H2 (g1.trans g2) _ fun w F3 H3 g3 r2 => by
    cases (show v = V.bl a from r)
    cases (show w = V.bl b from r2)
    refine ⟨rfl, ?_⟩
    have e : decide (V.bl a = V.bl b) = decide (a = b) := by simp
    rw [e]
    exact q _ F3 H3 (g2.trans g3) rfl
/-- x == y of options of ints -/
theorem krev {X : Cx} (K : PySem.W.Frag) {e : Expr} {te : TE} {k : Nat} {p1 p2 p3 pos : Pos} (he : PE X e te) (hK : X.K = K := by rfl) : PE X (.Subscript e (.Slice none none (some (.UnaryOp .USub (.Constant (.int 1) k p1) p2)) p3) pos) (tRevL K te) := by
  subst hK
  exact pe_revL he
theorem ev_rev (ha : Ev (rLst R) ta σ F H xs) (m : Mn R := by infer_instance) : Ev (rLst R) (tRevL K ta) σ F H xs.reverse := fun F1 H1 g1 Q q =>
  ha F1 H1 g1 _ fun v F2 H2 g2 ⟨a, vs, e, hl, p⟩ => ⟨a, vs, e, SqL.of (g2.fh _ _ hl), fun D hD => q _ _ _ (g2.trans (.new g2.fh hD)) ⟨D, _, rfl, upd_same, Paired.rev (Paired.up (Gr.new (M := M0) g2.fh hD).ff p)⟩⟩
/-- the script's items -/
theorem Ex.seq {K : PySem.W.Frag} {H H' : Hp} {a : Addr} {xs : List V} (e : Ex H H') (h : SqL K H a xs) : SqL K H' a xs := by
  rcases h with (h | ⟨o, h⟩) | h
  · exact .inl (.inl (e _ _ h))
  · exact .inl (.inr ⟨o, e _ _ h⟩)
  · exact .inr h
theorem ev_script {a : Addr} {ns : List Int} {n : Nat} (ha : Ev rRef te σ F H a) (h : SqL K H a (ns.map V.int)) : Ev (rLst rInt) (tSl (rSlL K) te tNoPart (tPart (tC (.int (n : Int))))) σ F H (ns.take n) := fun F1 H1 g1 Q q =>
  ha F1 H1 g1 _ fun v F2 H2 g2 e => ⟨(n : Int), rfl, a, ns.map V.int, e, (g1.hx.trans g2.hx).seq h, fun D hD => q _ _ _ (g2.trans (.new g2.fh hD)) ⟨D, _, rfl, upd_same, by
    rw [← cut_to]
    exact cut_paired (paired_ints ns)⟩⟩
end
theorem gsx {M : Addr → Prop} {F0 H0 F H F' H' : Hp} (g : Gr M0 F0 H0 F H) (g2 : Gr M F H F' H') (n : ∀ b, M b → H0 b = none) : Gr M0 F0 H0 F' H' := g.seq0 g2 n
end El

set_option Elab.async false
set_option linter.all false
set_option maxHeartbeats 2000000
namespace El
/-! ### plain facts of maps and words -/
theorem uniq_const {c : Nat} : ∀ {l : List Nat}, (∀ x ∈ l, x = c) → l ≠ [] → uniq l = [c]
  | [], _, h => absurd rfl h
  | x :: l, h, _ => by
    have hx : x = c := h x List.mem_cons_self
    have hl : ∀ y ∈ l, y = c := fun y hy => h y (List.mem_cons_of_mem _ hy)
    show (if x ∈ uniq l then uniq l else x :: uniq l) = [c]
    by_cases hn : l = []
    · subst hn
      subst hx
      rfl
    · rw [uniq_const hl hn, if_pos (by rw [hx]; exact List.mem_singleton.mpr rfl)]
theorem metB_iff {l : List Nat} : metB l = true ↔ l ≠ [] ∧ ∃ c, ∀ x ∈ l, x = c := by
  constructor
  · intro h
    have h1 : (uniq l).length = 1 := of_decide_eq_true h
    obtain ⟨c, hc⟩ := List.length_eq_one_iff.mp h1
    refine ⟨fun e => ?_, c, fun x hx => ?_⟩
    · subst e; cases hc
    · have := mem_uniq.mpr hx
      rw [hc] at this
      exact List.mem_singleton.mp this
  · rintro ⟨h1, c, h2⟩
    unfold metB
    rw [uniq_const h2 h1]
    rfl
theorem metB_eq {l : List Nat} {x y : Nat} (h : metB l = true) (hx : x ∈ l) (hy : y ∈ l) : x = y := by
  obtain ⟨_, c, hc⟩ := metB_iff.mp h
  rw [hc x hx, hc y hy]
theorem metB_repl {n c : Nat} (h : 1 ≤ n) : metB (List.replicate n c) = true := metB_iff.mpr ⟨fun e => by have := congrArg List.length e; simp at this; omega, c, fun x hx => (List.mem_replicate.mp hx).2⟩
theorem isMap_repl {n c : Nat} {m : List Nat} (hm : IsMap n m) (h : ∀ x ∈ m, x = c) : m = List.replicate n c := by
  rw [List.eq_replicate_iff]
  exact ⟨hm.1, h⟩
theorem metB_const {n : Nat} {m : List Nat} (hm : IsMap n m) (h0 : 1 ≤ n) (h : metB m = true) : m = List.replicate n (m.headD 0) := by
  refine isMap_repl hm fun x hx => metB_eq h hx ?_
  cases m with
  | nil => have := hm.1; simp at this; omega
  | cons a m => exact List.mem_cons_self
theorem then_id {n : Nat} {m : List Nat} (h : IsMap n m) : thenM m (idMap n) = m := by
  unfold thenM idMap
  apply List.ext_getElem
  · rw [List.length_map]
  · intro i h1 h2
    rw [List.getElem_map, List.getD_eq_getElem?_getD, List.getElem?_range (h.2 _ (List.getElem_mem h2))]
    rfl
theorem id_then {n : Nat} {m : List Nat} (h : IsMap n m) : thenM (idMap n) m = m := by
  unfold thenM idMap
  apply List.ext_getElem
  · rw [List.length_map, List.length_range, h.1]
  · intro i h1 h2
    rw [List.getElem_map, List.getElem_range, List.getD_eq_getElem?_getD, List.getElem?_eq_getElem h2]
    rfl
theorem then_get {a b : List Nat} {x : Nat} (h : x < a.length) : (thenM a b).getD x 0 = b.getD (a.getD x 0) 0 := by
  unfold thenM
  rw [List.getD_eq_getElem?_getD, List.getElem?_map, List.getElem?_eq_getElem h, List.getD_eq_getElem?_getD (l := a), List.getElem?_eq_getElem h]
  rfl
theorem map_getD {b : List Nat} {f : Nat → Nat} {x : Nat} (h : x < b.length) : (b.map f).getD x 0 = f (b.getD x 0) := by
  rw [List.getD_eq_getElem?_getD, List.getElem?_map, List.getElem?_eq_getElem h, List.getD_eq_getElem?_getD, List.getElem?_eq_getElem h]
  rfl
theorem then_assoc {n : Nat} {a b c : List Nat} (ha : IsMap n a) (hb : IsMap n b) : thenM (thenM a b) c = thenM a (thenM b c) := by
  unfold thenM
  rw [List.map_map]
  refine List.map_congr_left fun x hx => ?_
  show c.getD (b.getD x 0) 0 = _
  rw [map_getD (by rw [hb.1]; exact ha.2 x hx)]
theorem then_const {n c : Nat} {a : List Nat} (ha : IsMap n a) : thenM a (List.replicate n c) = List.replicate n c := by
  rw [List.eq_replicate_iff]
  refine ⟨by unfold thenM; rw [List.length_map, ha.1], fun x hx => ?_⟩
  obtain ⟨y, hy, rfl⟩ := List.mem_map.mp hx
  rw [List.getD_eq_getElem?_getD, List.getElem?_replicate, if_pos (ha.2 y hy)]
  rfl
/-- a constant map, then another one -/
theorem const_then {n c : Nat} {b : List Nat} : thenM (List.replicate n c) b = List.replicate n (b.getD c 0) := by
  unfold thenM
  rw [List.map_replicate]
/-! words -/
theorem from_then {t : Tn} : ∀ {w : List Nat} {m : List Nat}, IsMap t.many m → (∀ s ∈ w, s < t.maps.length) → mapFrom t m w = thenM m (mapW t w)
  | [], m, hm, _ => (then_id hm).symm
  | s :: w, m, hm, hs => by
    have h1 := hs s List.mem_cons_self
    have h2 : ∀ s' ∈ w, s' < t.maps.length := fun s' h' => hs s' (List.mem_cons_of_mem _ h')
    show mapFrom t (thenM m (t.maps.getD s [])) w = thenM m (mapFrom t (thenM (idMap t.many) (t.maps.getD s [])) w)
    rw [id_then (t.isMap h1), from_then (isMap_then hm (t.isMap h1)) h2, from_then (t.isMap h1) h2, then_assoc hm (t.isMap h1)]
theorem mapW_app {t : Tn} {u v : List Nat} (hu : ∀ s ∈ u, s < t.maps.length) (hv : ∀ s ∈ v, s < t.maps.length) : mapW t (u ++ v) = thenM (mapW t u) (mapW t v) := by
  unfold mapW mapFrom
  rw [List.foldl_append]
  exact from_then (isMap_mapW hu) hv
theorem mapW_cons {t : Tn} {s : Nat} {v : List Nat} (h1 : s < t.maps.length) (hv : ∀ s ∈ v, s < t.maps.length) : mapW t (s :: v) = thenM (t.maps.getD s []) (mapW t v) := by
  show mapFrom t (thenM (idMap t.many) (t.maps.getD s [])) v = _
  rw [id_then (t.isMap h1), from_then (t.isMap h1) hv]
theorem mapW_one {t : Tn} {s : Nat} (h1 : s < t.maps.length) : mapW t [s] = t.maps.getD s [] := id_then (t.isMap h1)
/-! what is drawn: the first signs (the newest on) that meet -/
theorem drRun_snoc {t : Tn} {w : List Nat} {s : Nat} : drRun t (w ++ [s]) = drStep t (drRun t w) s := by
  unfold drRun
  rw [List.foldl_append]
  rfl
/-- the run: its map is that of its first signs, turned about; and it met no earlier -/
theorem drRun_spec {t : Tn} : ∀ (n : Nat) (w : List Nat), w.length = n → (∀ s ∈ w, s < t.maps.length) →
    (drRun t w).1 = mapW t (w.take (drRun t w).2).reverse ∧ (drRun t w).2 ≤ w.length ∧ (∀ j, j < (drRun t w).2 → metB (mapW t (w.take j).reverse) = false) ∧ ((drRun t w).2 = w.length ∨ metB (drRun t w).1 = true)
  | 0, w, hl, _ => by
    cases w with
    | nil => exact ⟨rfl, Nat.le_refl _, fun j hj => absurd hj (Nat.not_lt_zero _), .inl rfl⟩
    | cons a w => cases hl
  | n + 1, w, hl, hs => by
    obtain ⟨w', s, rfl⟩ : ∃ w' s, w = w' ++ [s] := ⟨w.dropLast, w.getLast (by intro e; subst e; cases hl), (List.dropLast_concat_getLast _).symm⟩
    have hl' : w'.length = n := by simpa using hl
    have h1 : ∀ s ∈ w', s < t.maps.length := fun s h => hs s (List.mem_append_left _ h)
    have h2 : s < t.maps.length := hs s (List.mem_append_right _ List.mem_cons_self)
    obtain ⟨i1, i2, i3, i4⟩ := drRun_spec n w' hl' h1
    rw [drRun_snoc]
    unfold drStep
    by_cases hm : metB (drRun t w').1 = true
    · rw [if_pos hm]
      refine ⟨?_, by rw [List.length_append]; omega, fun j hj => ?_, .inr hm⟩
      · rw [List.take_append_of_le_length i2]
        exact i1
      · rw [List.take_append_of_le_length (by omega)]
        exact i3 j hj
    · rw [if_neg hm]
      have e : (drRun t w').2 = w'.length := i4.resolve_right hm
      refine ⟨?_, by rw [List.length_append, e]; exact Nat.le_refl _, fun j hj => ?_, .inl (by rw [List.length_append, e]; rfl)⟩
      · rw [List.take_of_length_le (by rw [List.length_append, e]; exact Nat.le_refl _), List.reverse_append]
        show thenM (t.maps.getD s []) (drRun t w').1 = mapW t (s :: w'.reverse)
        rw [mapW_cons h2 (fun x hx => h1 x (List.mem_reverse.mp hx)), i1, e, List.take_length]
      · have hj' : j ≤ w'.length := by have : j < (drRun t w').2 + 1 := hj; omega
        rw [List.take_append_of_le_length hj']
        by_cases hj2 : j < w'.length
        · exact i3 j (by omega)
        · have : j = w'.length := by omega
          rw [this, List.take_length]
          have e2 := i1
          rw [e, List.take_length] at e2
          rw [← e2]
          simpa using hm
/-- the elder signs that are read behind the first that meet change nothing -/
theorem drawn_of_met {t : Tn} {w : List Nat} (hs : ∀ s ∈ w, s < t.maps.length) {j : Nat} (hj : j ≤ w.length) (hm : metB (mapW t (w.take j).reverse) = true) : ∃ u, u ≤ j ∧ drawnM t w = some ((mapW t w.reverse).headD 0, u) := by
  obtain ⟨h1, h2, h3, h4⟩ := drRun_spec w.length w rfl hs
  have hu : (drRun t w).2 ≤ j := by
    rcases Nat.lt_or_ge j (drRun t w).2 with h | h
    · rw [h3 j h] at hm; cases hm
    · exact h
  have t0 := t.h0
  have hm2 : metB (drRun t w).1 = true := by
    rcases h4 with h4 | h4
    · have : j = (drRun t w).2 := by omega
      rw [h1, ← this]; exact hm
    · exact h4
  have him : IsMap t.many (drRun t w).1 := isMap_run hs
  refine ⟨(drRun t w).2, hu, ?_⟩
  have ew : (mapW t w.reverse) = List.replicate t.many ((drRun t w).1.headD 0) := by
    have e : w.reverse = (w.drop (drRun t w).2).reverse ++ (w.take (drRun t w).2).reverse := by rw [← List.reverse_append, List.take_append_drop]
    have a1 : ∀ s ∈ (w.drop (drRun t w).2).reverse, s < t.maps.length := fun s h => hs s (List.mem_of_mem_drop (List.mem_reverse.mp h))
    have a2 : ∀ s ∈ (w.take (drRun t w).2).reverse, s < t.maps.length := fun s h => hs s (List.mem_of_mem_take (List.mem_reverse.mp h))
    rw [e, mapW_app a1 a2, ← h1, metB_const him t0 hm2, then_const (isMap_mapW a1)]
    cases hq : t.many with
    | zero => omega
    | succ k => rfl
  unfold drawnM plc
  rw [if_pos hm2]
  show some ((drRun t w).1.headD 0, _) = some ((mapW t w.reverse).headD 0, _)
  rw [ew]
  cases hq : t.many with
  | zero => omega
  | succ k => rfl
end El

set_option Elab.async false
set_option linter.all false
set_option maxHeartbeats 2000000
namespace El
def blkM (t : Tn) (n : Nat) (w : List Nat) (k : Nat) : List Nat := mapW t ((w.drop (k * n)).take n)
def meetM (t : Tn) (n : Nat) (w : List Nat) : List Nat := (List.range (w.length / n)).filter fun k => metB (blkM t n w k)
section
variable {t : Tn} {n : Nat} {w : List Nat}
theorem take_succ_blk (k : Nat) : w.take ((k + 1) * n) = w.take (k * n) ++ (w.drop (k * n)).take n := by
  rw [Nat.succ_mul, List.take_add]
theorem blk_ok (hs : ∀ s ∈ w, s < t.maps.length) (k : Nat) : ∀ s ∈ (w.drop (k * n)).take n, s < t.maps.length := fun s h => hs s (List.mem_of_mem_drop (List.mem_of_mem_take h))
theorem take_ok (hs : ∀ s ∈ w, s < t.maps.length) (k : Nat) : ∀ s ∈ w.take k, s < t.maps.length := fun s h => hs s (List.mem_of_mem_take h)
theorem map_succ (hs : ∀ s ∈ w, s < t.maps.length) (k : Nat) : mapW t (w.take ((k + 1) * n)) = thenM (mapW t (w.take (k * n))) (blkM t n w k) := by
  rw [take_succ_blk, mapW_app (take_ok hs _) (blk_ok hs k)]
  rfl
def roInv (t : Tn) (n : Nat) (w : List Nat) (k : Nat) : Option Nat → Prop
  | none => (List.range k).filter (fun k => metB (blkM t n w k)) = []
  | some s => ∃ i0, i0 < k ∧ (List.range k).filter (fun k => metB (blkM t n w k)) = [i0] ∧ mapW t (w.take (k * n)) = List.replicate t.many s ∧ metB (mapW t ((w.take (k * n)).drop (i0 * n))) = true
def roEnd (t : Tn) (n : Nat) (w : List Nat) (L : Nat) : Option (Nat × Nat) → Prop
  | none => ((List.range L).filter (fun k => metB (blkM t n w k))).length < 2
  | some (s, k) => ∃ i0 i1 rest, (List.range L).filter (fun k => metB (blkM t n w k)) = i0 :: i1 :: rest ∧ k = i1 + 1 ∧ i0 < i1 ∧ i1 < L ∧ mapW t (w.take (i1 * n)) = List.replicate t.many s ∧ metB (mapW t ((w.take (i1 * n)).drop (i0 * n))) = true
theorem roLoop_spec (hs : ∀ s ∈ w, s < t.maps.length) (L : Nat) (hL : L * n ≤ w.length) : ∀ (r k : Nat) (st : Option Nat), k + r = L → roInv t n w k st → roEnd t n w L (roLoop t n w r k st)
  | 0, k, st, hk, h => by
    have : k = L := by omega
    subst this
    show ((List.range k).filter (fun k => metB (blkM t n w k))).length < 2
    cases st with
    | none => rw [show (List.range k).filter _ = [] from h]; exact Nat.zero_lt_succ _
    | some s => obtain ⟨i0, _, e, _⟩ := h; rw [e]; exact Nat.lt_succ_self _
  | r + 1, k, none, hk, h => by
    have t0 := t.h0
    refine roLoop_spec hs L hL r (k + 1) _ (by omega) ?_
    have him : IsMap t.many (blkM t n w k) := isMap_mapW (blk_ok hs k)
    show roInv t n w (k + 1) (plc (blkM t n w k))
    unfold plc
    have e0 : (List.range k).filter (fun k => metB (blkM t n w k)) = [] := h
    by_cases hm : metB (blkM t n w k) = true
    · rw [if_pos hm]
      refine ⟨k, Nat.lt_succ_self k, ?_, ?_, ?_⟩
      · rw [List.range_succ, List.filter_append, e0, List.filter_cons, if_pos hm]
        rfl
      · rw [map_succ hs, metB_const him t0 hm, then_const (isMap_mapW (take_ok hs _))]
        cases hq : t.many with
        | zero => omega
        | succ k => rfl
      · rw [take_succ_blk]
        have hl : (w.take (k * n)).length = k * n := by
          rw [List.length_take]
          have : k * n ≤ L * n := Nat.mul_le_mul_right _ (by omega)
          omega
        rw [List.drop_append_of_le_length (by omega), List.drop_of_length_le (by omega)]
        exact hm
    · rw [if_neg hm]
      show (List.range (k + 1)).filter _ = []
      rw [List.range_succ, List.filter_append, e0, List.filter_cons, if_neg hm]
      rfl
  | r + 1, k, some s, hk, h => by
    have t0 := t.h0
    have him : IsMap t.many (blkM t n w k) := isMap_mapW (blk_ok hs k)
    obtain ⟨i0, hi, e0, e1, e2⟩ := h
    show roEnd t n w L (if metB (blkM t n w k) = true then some (s, k + 1) else roLoop t n w r (k + 1) (some ((blkM t n w k).getD s 0)))
    by_cases hm : metB (blkM t n w k) = true
    · rw [if_pos hm]
      refine ⟨i0, k, (List.range' (k + 1) r).filter (fun k => metB (blkM t n w k)), ?_, rfl, hi, by omega, e1, e2⟩
      have : List.range L = List.range k ++ (k :: List.range' (k + 1) r) := by
        rw [← hk, List.range_eq_range', List.range_eq_range', ← List.range'_append_1, Nat.zero_add]
        rfl
      rw [this, List.filter_append, e0, List.filter_cons, if_pos hm]
      rfl
    · rw [if_neg hm]
      refine roLoop_spec hs L hL r (k + 1) _ (by omega) ⟨i0, by omega, ?_, ?_, ?_⟩
      · rw [List.range_succ, List.filter_append, e0, List.filter_cons, if_neg hm]
        rfl
      · rw [map_succ hs, e1, const_then]
      · have hl : (w.take (k * n)).length = k * n := by
          rw [List.length_take]
          have : k * n ≤ L * n := Nat.mul_le_mul_right _ (by omega)
          omega
        have hi2 : i0 * n ≤ k * n := Nat.mul_le_mul_right _ (by omega)
        rw [take_succ_blk, List.drop_append_of_le_length (by omega), mapW_app (fun s h => take_ok hs _ s (List.mem_of_mem_drop h)) (blk_ok hs k)]
        rw [metB_const (isMap_mapW (fun s h => take_ok hs _ s (List.mem_of_mem_drop h))) t0 e2, const_then]
        exact metB_repl t0
/-- the whole of the law -/
theorem once_law (hs : ∀ s ∈ w, s < t.maps.length) : match readOnceM t n w with
    | none => (meetM t n w).length < 2
    | some (s, k) => ∃ i0 i1 rest, meetM t n w = i0 :: i1 :: rest ∧ k = i1 + 1 ∧ i0 < i1 ∧ i1 * n ≤ w.length ∧ mapW t (w.take (i1 * n)) = List.replicate t.many s ∧ ∃ u, drawnM t (w.take (i1 * n)).reverse = some (s, u) ∧ u ≤ (i1 - i0) * n := by
  have t0 := t.h0
  have h := roLoop_spec (n := n) hs (w.length / n) (Nat.div_mul_le_self _ _) (w.length / n) 0 none (by omega) rfl
  unfold readOnceM
  revert h
  cases roLoop t n w (w.length / n) 0 none with
  | none => exact fun h => h
  | some p =>
    obtain ⟨s, k⟩ := p
    rintro ⟨i0, i1, rest, e1, e2, e3, e4, e5, e6⟩
    have hle : i1 * n ≤ w.length := Nat.le_trans (Nat.mul_le_mul_right n (Nat.le_of_lt e4)) (Nat.div_mul_le_self _ _)
    have hlen : (w.take (i1 * n)).length = i1 * n := by rw [List.length_take]; omega
    have hi : i0 * n ≤ i1 * n := Nat.mul_le_mul_right _ (by omega)
    have hj : i1 * n - (i1 - i0) * n = i0 * n := by rw [← Nat.sub_mul, show i1 - (i1 - i0) = i0 by omega]
    have hjl : (i1 - i0) * n ≤ i1 * n := Nat.mul_le_mul_right _ (by omega)
    obtain ⟨u, hu, hd⟩ := drawn_of_met (t := t) (w := (w.take (i1 * n)).reverse) (fun s h => take_ok hs _ s (List.mem_reverse.mp h)) (j := (i1 - i0) * n) (by rw [List.length_reverse]; omega) (by
      rw [List.take_reverse, List.reverse_reverse, hlen, hj]
      exact e6)
    refine ⟨i0, i1, rest, e1, e2, e3, hle, e5, u, ?_, hu⟩
    rw [hd, List.reverse_reverse, e5]
    cases hq : t.many with
    | zero => omega
    | succ k => rfl
end
end El

set_option Elab.async false
set_option linter.all false
set_option maxRecDepth 100000
set_option maxHeartbeats 4000000
namespace El
open PySem PySem.Spec L2
/-! ### tuple * 1 and more -/
theorem tuple_mul1 (l : Addr) (items : Array Value) (n : Nat) (dd : Option Addr) (sl : Array (Option Value)) (u : Tok) (hl0 : items.isEmpty = false) :
    Meets (Builtin.«tuple.__mul__» ⟨[.ref l, .int 1 u], []⟩) (fun _ R s => s.heap.get? l = some { cls := .type "tuple", dict := dd, data := .seq items n, slots := sl } ∧
      R (.ok (.ret (Value.ref l))) s) :=
  .of_wp fun prog w A R s h => by
    obtain ⟨hp, g, d, tk, os⟩ := s
    obtain ⟨hl, h⟩ := h
    have f1 := AutoSeq1.idx_int
    wp_walk using wpAny_loadPart' hl
    repeat (first
      | (refine wpAny_ite_false (decide_eq_false (by decide)) ?_; wp_walk using wpAny_loadPart' hl)
      | (refine wpAny_ite_true (decide_eq_true (by rw [hl0]; rfl)) ?_; wp_walk using wpAny_loadPart' hl))
    exact ⟨_, rfl, h⟩

def rRepU (K : PySem.W.Frag) : R2 := fun x y H Q => ∃ l k xs, x = .ref l ∧ y = .int k ∧ SqT K H l xs ∧ xs ≠ [] ∧ 1 ≤ k ∧ k ≤ 1000 ∧ xs.length ≤ 1000 ∧ (k = 1 → Q x H) ∧ ∀ p, H p = none → Q (.ref p) (upd H p (.tup (List.replicate k.toNat xs).flatten))
theorem op_repU {X : Cx} : OpR X (binaryOp .Mult) (rRepU X.K) := by
  intro pins s σ H x y v u Q I rx ry h
  obtain ⟨l, k, xs, rfl, rfl, hT, hne, h1, h2, hz, q1, q⟩ := h
  by_cases hk : k = 1
  · subst hk
    have rx' := rx
    cases rx'
    obtain ⟨t, rfl⟩ := ry
    obtain ⟨its, r, ⟨⟨cls, dd, data, sl⟩, ho, hc, n, hd⟩, hs⟩ := I.tuple hT
    simp only at hc hd
    subst hc hd
    have hle : its.length = xs.length := r.length.symm
    have hi : its.toArray.isEmpty = false := by
      cases its with
      | nil => exact absurd (List.eq_nil_of_length_eq_zero hle.symm) hne
      | cons a b => rfl
    refine wpAny_binaryOp_repeat_ref (T := "tuple") (U := "int") (by decide) ⟨_, ho, rfl⟩ (fun s' => typeIs_int s' 1 t) noFill_tuple_mul F.fills_int_mul F.slot_int_rmul repeat_tuple F.slot_int_index.lookup
      (call_meets F.slot_int_rmul (typeIs_int s 1 t) F.entry_int_rmul (F.args_int_rmul_2 _ _) (int_rmul_tuple 1 t l its.toArray n dd sl)
        ⟨ho, rfl, ⟨_, ho, rfl⟩, call_meets F.slot_tuple_mul ⟨_, ho, rfl⟩ F.entry_tuple_mul (F.args_tuple_mul_2 _ _) (tuple_mul1 l its.toArray n dd sl t hi) ⟨ho, ?_⟩⟩)
    exact ⟨.ref l, H, I, rfl, q1 rfl⟩
  · exact op_repT pins s σ H (.ref l) (.int k) v u Q I rx ry ⟨l, k, xs, rfl, rfl, hT, hne, by omega, h2, hz, q⟩

/-! ### texts -/
def num (n : Nat) : Str := Str.ofString (toString ((n : Nat) : Int))
theorem tl_numE (n : Nat) : TL.tl (num n) = TL.numL n := TL.tl_num n
/-- the text of a number -/
def rNum : Rp Nat := fun _ v n => v = .str (num n)
instance : Mn rNum := ⟨fun _ h => h⟩
section
variable {K : PySem.W.Frag} {σ : St} {F H F' H' : Hp} {ta tb tc te tl to : TE} {α β γ : Type} {R : Rp α} {S : Rp β} {x : α} {y : β} {xs : List α} {ys : List β} {a b z : Str} {D : Ends} {ts : TS}
theorem ev_strN {n : Nat} (ha : Ev rInt ta σ F H (n : Int)) (hn : n < 1000000) : Ev rNum (tCB (fun xs H Q => ∃ i : Int, xs = [.int i] ∧ i.natAbs.log2 < 1920 ∧ Q (.str (toString i)) H) (tCons ta tNil)) σ F H n := fun F1 H1 g1 Q q =>
  ha F1 H1 g1 _ fun v F2 H2 g2 r => ⟨(n : Int), by rw [show v = _ from r], by
    rw [Int.natAbs_natCast]
    have : n.log2 ≤ n := by
      rw [Nat.log2_def]
      split
      · have := Nat.log2_lt (n := n / 2) (k := n) (by omega)
        by_cases h : n / 2 = 0
        · rw [h]; omega
        · have := (Nat.log2_lt (n := n / 2) (k := n / 2) h).mpr Nat.lt_two_pow_self
          omega
      · omega
    have h2 : n.log2 < 20 := by
      by_cases h : n = 0
      · subst h; decide
      · exact (Nat.log2_lt h).mpr (Nat.lt_of_lt_of_le hn (by decide))
    omega, q _ F2 H2 g2 rfl⟩
theorem Ev.str {n : Nat} (h : Ev rNum ta σ F H n) : Ev rStr ta σ F H (num n) := h
theorem Ev.num {n : Nat} (h : Ev rStr ta σ F H (num n)) : Ev rNum ta σ F H n := h
abbrev rJoinS (K : PySem.W.Frag) : V → List V → Hp → VK → Prop := fun x xs H Q => ∃ a p, ∃ ys : List Str, x = .str a ∧ xs = [.ref p] ∧ (SqL K H p (ys.map V.str) ∨ SqT K H p (ys.map V.str)) ∧ (ys.map (·.length)).sum + ys.length * a.length ≤ 16777216 ∧ Q (.str (Txt.join a ys)) H
theorem ev_join {ys : List Str} (ha : Ev rStr to σ F H a) (hb : Ev (rLst rStr) te σ F H ys) (hz : (ys.map (·.length)).sum + ys.length * a.length ≤ 16777216) : Ev rStr (tM1 (rJoinS K) to te) σ F H (Txt.join a ys) := fun F1 H1 g1 Q q =>
  ha F1 H1 g1 _ fun v F2 H2 g2 r => ⟨⟨a, r⟩, hb F2 H2 (g1.trans g2) _ fun w F3 H3 g3 ⟨p, vs, e, hp, pr⟩ => ⟨a, p, ys, r, by rw [e], .inl (by rw [← strs_paired pr]; exact SqL.of (g3.fh _ _ hp)), hz, q _ F3 H3 (g2.trans g3) rfl⟩⟩
theorem paired_strs {H : Hp} : ∀ ns : List Str, Paired (rStr H) (ns.map V.str) ns
  | [] => .nil
  | n :: ns => .cons rfl (paired_strs ns)
theorem ev_joinM {p : Addr} {ys : List Str} (ha : Ev rStr to σ F H a) (hb : Ev rRef te σ F H p) (hp : H p = some (.lst (ys.map V.str))) (hz : (ys.map (·.length)).sum + ys.length * a.length ≤ 16777216) : Ev rStr (tM1 (rJoinS K) to te) σ F H (Txt.join a ys) := fun F1 H1 g1 Q q =>
  ha F1 H1 g1 _ fun v F2 H2 g2 r => ⟨⟨a, r⟩, hb F2 H2 (g1.trans g2) _ fun w F3 H3 g3 e => ⟨a, p, ys, r, by rw [show w = _ from e], .inl (SqL.of (g3.hx _ _ (g2.hx _ _ (g1.hx _ _ hp)))), hz, q _ F3 H3 (g2.trans g3) rfl⟩⟩
theorem ev_split (ha : Ev rStr to σ F H a) (hb : Ev rStr te σ F H b) (h0 : (b.length == 0) = false) (hz : a.length + 2 ≤ sizeLine) : Ev (rLst rStr) (tM1 (fun x xs H Q => ∃ a b, x = .str a ∧ xs = [.str b] ∧ (b.length == 0) = false ∧ a.length + 2 ≤ sizeLine ∧ rNewStrs (Txt.split a b) H Q) to te) σ F H (Txt.split a b) := fun F1 H1 g1 Q q =>
  ha F1 H1 g1 _ fun v F2 H2 g2 r => ⟨⟨a, r⟩, hb F2 H2 (g1.trans g2) _ fun w F3 H3 g3 e => ⟨a, b, r, by rw [show w = _ from e], h0, hz, fun p hp => q _ _ _ ((g2.trans g3).trans (.new g3.fh hp)) ⟨p, _, rfl, upd_same, paired_strs _⟩⟩⟩
theorem ev_intS {n : Int} (ha : Ev rStr ta σ F H a) (hn : PySem.intText? a = some n) (hz : a.length ≤ 640) : Ev rInt (tCB (fun xs H Q => ∃ a n, xs = [.str a] ∧ PySem.intText? a = some n ∧ a.length ≤ 640 ∧ Q (.int n) H) (tCons ta tNil)) σ F H n := fun F1 H1 g1 Q q =>
  ha F1 H1 g1 _ fun v F2 H2 g2 r => ⟨a, n, by rw [show v = _ from r], hn, hz, q _ F2 H2 g2 rfl⟩
theorem ev_inSign {c : Nat} (ha : Ev rStr ta σ F H ⟨#[c]⟩) (hb : Ev rStr tb σ F H z) : Ev rBl (tOp (fun x y H Q => ∃ (c : Nat) (z : Str), x = .str ⟨#[c]⟩ ∧ y = .str z ∧ Q (.bl (decide (c ∈ z.cps.toList))) H) ta tb) σ F H (decide (c ∈ z.cps.toList)) := fun F1 H1 g1 Q q =>
  ha F1 H1 g1 _ fun v F2 H2 g2 r => hb F2 H2 (g1.trans g2) _ fun w F3 H3 g3 e => ⟨c, z, r, e, q _ F3 H3 (g2.trans g3) rfl⟩
theorem ev_ixS {i : Int} {c : Nat} (ha : Ev rStr ta σ F H z) (hb : Ev rInt tb σ F H i) (hz : z.length ≤ sizeLine) (hi : atI z.cps.toList i = some c) : Ev rStr (tOp rIxS ta tb) σ F H ⟨#[c]⟩ := fun F1 H1 g1 Q q =>
  ha F1 H1 g1 _ fun v F2 H2 g2 r => hb F2 H2 (g1.trans g2) _ fun w F3 H3 g3 e => ⟨z, i, c, r, e, hz, hi, q _ F3 H3 (g2.trans g3) rfl⟩
/-- [elt for sign in text] -/
theorem ev_lcS {n : Nat} {vs : List Nat} (h : Ev rStr tl σ F H z) (hlen : ys.length = z.cps.size) (hz : z.cps.size ≤ 1000000) (hw : ∀ v, wipe ((wipe σ vs).set n (some v)) vs = wipe σ vs)
    (he : ∀ (i : Nat) c y F1 H1, z.cps[i]? = some c → ys[i]? = some y → Gr M0 F H F1 H1 → Ev S te ((wipe σ vs).set n (some (.str ⟨#[c]⟩))) F1 H1 y) (m' : Mn S := by infer_instance) : Ev (rLst S) (tLc (iStr tl) (gName n) tYes te vs) σ F H ys := by
  intro F1 H1 g1 Q q
  refine h F1 H1 g1 _ fun v F2 H2 g2 ea => ⟨z, ea, fun D hD => ?_⟩
  refine lc_it walk_str (fun i H' => ∃ F' us, Gr M0 F2 H2 F' H' ∧ F' D = none ∧ H' D = some (.lst us) ∧ Paired (S F') us (ys.take i)) ⟨F2, [], .loc g2.fh hD, g2.fh.free hD, upd_same, .nil⟩ (fun _ _ _ _ => trivial) ?_ ?_
  · rintro i w H' H0 hi ⟨F', us, g, fD, hD', pu⟩ ⟨eq, c, hc, rfl⟩
    obtain rfl : H' = H0 := eq.symm
    have hil : i < ys.length := by rw [hlen]; exact hi
    have hy : ys[i]? = some ys[i] := List.getElem?_eq_getElem hil
    refine ⟨hw _, ?_⟩
    refine he i c ys[i] F' H' hc hy ((g1.trans g2).trans g) F' H' (.refl g.fh) _ fun u F3 H3 g3 r3 => ?_
    refine ⟨us, g3.hx _ _ hD', ?_, F3, us ++ [u], (g.trans g3).set' (g3.nn hD' fD) (.inl hD), g3.nn hD' fD, upd_same, ?_⟩
    · rw [pu.length, List.length_take, sizeLine_eq]
      omega
    · rw [List.take_add_one, hy]
      exact (Paired.up g3.ff pu).snoc r3
  · rintro H' ⟨F', us, g, fD, hD', pu⟩
    rw [← hlen, List.take_length] at pu
    exact q _ _ _ (g2.trans (g.frz hD' (g2.fh.free hD) (.inl hD))) ⟨D, us, rfl, upd_same, Paired.up (g.fh.frz hD' fD) pu⟩
/-- tuple * n -/
theorem ev_repU {n : Int} (ha : Ev (rTup R) ta σ F H [x]) (hb : Ev rInt tb σ F H n) (h1 : 1 ≤ n) (h2 : n ≤ 1000) (m : Mn R := by infer_instance) : Ev (rTup R) (tOp (rRepU K) ta tb) σ F H (List.replicate n.toNat x) := fun F1 H1 g1 Q q =>
  ha F1 H1 g1 _ fun v F2 H2 g2 ⟨a, vs, e, hl, p⟩ => hb F2 H2 (g1.trans g2) _ fun w F3 H3 g3 e2 => by
    cases p with
    | cons r p =>
      cases p
      rename_i y
      refine ⟨a, n, [y], e, e2, SqT.of (g3.fh _ _ (g3.ff _ _ hl)), by simp, h1, h2, by simp, fun hn => ?_, fun D hD => ?_⟩
      · subst hn
        exact q _ F3 H3 (g2.trans g3) ⟨a, [y], e, g3.ff _ _ hl, .cons (m.mono g3.ff r) .nil⟩
      · have g4 : Gr M0 F3 H3 (upd F3 D (.tup (List.replicate n.toNat [y]).flatten)) (upd H3 D (.tup (List.replicate n.toNat [y]).flatten)) := .new g3.fh hD
        refine q _ _ _ ((g2.trans g3).trans g4) ⟨D, _, rfl, upd_same, ?_⟩
        have : ∀ k : Nat, Paired (R (upd F3 D (.tup (List.replicate n.toNat [y]).flatten))) (List.replicate k [y]).flatten (List.replicate k x) := fun k => by
          induction k with
          | zero => exact .nil
          | succ k ih =>
            rw [List.replicate_succ, List.replicate_succ, List.flatten_cons]
            exact .cons (m.mono (g3.ff.trans g4.ff) r) ih
        exact this _
/-- min of two -/
theorem ev_min2 {i j : Int} (ha : Ev rInt ta σ F H i) (hb : Ev rInt tb σ F H j) : Ev rInt (tCB (fun xs H Q => ∃ i j : Int, xs = [.int i, .int j] ∧ Q (.int (if j < i then j else i)) H) (tCons ta (tCons tb tNil))) σ F H (if j < i then j else i) := fun F1 H1 g1 Q q =>
  ha F1 H1 g1 _ fun v F2 H2 g2 r => hb F2 H2 (g1.trans g2) _ fun w F3 H3 g3 r2 => ⟨i, j, by rw [show v = _ from r, show w = _ from r2], q _ F3 H3 (g2.trans g3) rfl⟩
theorem ev_max2 {i j : Int} (ha : Ev rInt ta σ F H i) (hb : Ev rInt tb σ F H j) : Ev rInt (tCB (fun xs H Q => ∃ i j : Int, xs = [.int i, .int j] ∧ Q (.int (if j > i then j else i)) H) (tCons ta (tCons tb tNil))) σ F H (if j > i then j else i) := fun F1 H1 g1 Q q =>
  ha F1 H1 g1 _ fun v F2 H2 g2 r => hb F2 H2 (g1.trans g2) _ fun w F3 H3 g3 r2 => ⟨i, j, by rw [show v = _ from r, show w = _ from r2], q _ F3 H3 (g2.trans g3) rfl⟩

/-! ### own == of turns, isinstance -/
theorem Gr.ext {F H H' : Hp} (e : Ex F H) (x : Ext H H') : Gr M0 F H F H' := ⟨Ex.refl F, fun a o h => x a o (e a o h), fun b o _ h => x b o h, fun _ _ _ h => h, fun b h => by
  cases q : H b with
  | none => exact absurd q h
  | some o => rw [x b o q]; exact fun z => nomatch z⟩
def REq (C : Addr) : Addr → Addr → Hp → Prop := fun a b H => ∃ F t, Ex F H ∧ rTurns C F (.ref a) t ∧ rTurns C F (.ref b) t
instance {R : Addr → Addr → Hp → Prop} : SpLen (spEq R) 2 := ⟨fun ⟨_, _, h, _⟩ => by rw [h]; rfl⟩
theorem ev_eqTurns {C : Addr} {t : Tn} (ha : Ev (rTurns C) ta σ F H t) (hb : Ev (rTurns C) tb σ F H t) : Ev rBl (tOp (rEqG (DIns C (REq C))) ta tb) σ F H true := fun F1 H1 g1 Q q =>
  ha F1 H1 g1 _ fun v F2 H2 g2 r => hb F2 H2 (g1.trans g2) _ fun w F3 H3 g3 r2 => by
    have r' := Mn.mono g3.ff r
    have r3 := r'
    have r4 := r2
    obtain ⟨a, dx, l, rfl, h1, h2⟩ := r3
    obtain ⟨b, dy, l', rfl, h3, h4⟩ := r4
    exact ⟨⟨a, b, dx, dy, _, _, rfl, rfl, g3.fh _ _ h1, g3.fh _ _ h3, F3, t, g3.fh, r', r2⟩, fun H' x => q _ F3 H' ((g2.trans g3).trans (.ext g3.fh x)) rfl⟩
abbrev rIsC (C : Addr) : List V → Hp → VK → Prop := fun xs H Q => ∃ a dx fs, xs = [.ref a, .ref C] ∧ H a = some (.ins C dx fs) ∧ Q (.bl true) H
theorem ev_isTurns {C : Addr} {t : Tn} (ha : Ev (rTurns C) ta σ F H t) : Ev rBl (tCB (rIsC C) (tCons ta (tCons (tC (.ref C)) tNil))) σ F H true := fun F1 H1 g1 Q q =>
  ha F1 H1 g1 _ fun v F2 H2 g2 ⟨a, dx, l, e, h1, h2⟩ => ⟨a, dx, _, by rw [e], g2.fh _ _ h1, q _ F2 H2 g2 rfl⟩

/-! ### statements -/
/-- x = [e]: a list that may change -/
theorem x_lst1 {i : Nat} (e : Ex F H) (h : Ev R te σ F H x) (k : ∀ v l F' H', Gr M0 F H F' H' → R F' v x → H' l = none → D.nx (σ.set i (some (.ref l))) (upd H' l (.lst [v]))) : tAsg (tLst (tCons te tNil)) (gName i) D σ H :=
  h F H (.refl e) _ fun v F' H' g r => ⟨by show 1 ≤ sizeLine; decide, fun l hl => k v l F' H' g r hl⟩
/-- xs.append(e), e a draw -/
theorem x_appS {a l : Addr} {c N : Nat} {P : α → Prop} {vs : List V} {i : Nat} (hne : l ≠ a) (h : EvS a c R te σ F H P) (e : Ex F H) (fa : F a = none) (s : Src H a N) (hc : c ≤ N) (hv : σ[i]? = some (some (.ref l))) (hl : H l = some (.lst vs)) (hz : vs.length < sizeLine)
    (k : ∀ v x F' H', Gr (M1 a) F H F' H' → F' a = none → Src H' a (N - c) → P x → R F' v x → H' l = some (.lst vs) → D.nx σ (upd H' l (.lst (vs ++ [v])))) : tDrop (tBM K "list" rAppend (tVar i) (tCons te tNil)) D σ H :=
  ⟨.ref l, hv, .inl ⟨rfl, vs, SqL.of hl⟩, h F H (N - c) (.refl e) fa (s.le (by omega)) _ fun w x F' H' g fa' s' p r => ⟨l, vs, w, rfl, rfl, g.hh _ _ hne hl, hz, k w x F' H' g fa' s' p r (g.hh _ _ hne hl)⟩⟩
/-- for k in range(n), n a draw -/
theorem x_forRS {a : Addr} {c N j : Nat} {P1 : Int → Prop} (h : EvS a c rInt ta σ F H P1) (e : Ex F H) (fa : F a = none) (s : Src H a N) (hc : c ≤ N) (hn : ∀ n, P1 n → 0 ≤ n ∧ n ≤ 1000000)
    (k : ∀ n : Nat, P1 (n : Int) → ∀ F1 H1, Gr (M1 a) F H F1 H1 → F1 a = none → Src H1 a (N - c) → ∃ Pv : Nat → St → Hp → Hp → Prop, Pv 0 σ F1 H1 ∧
      (∀ i σ' F' H', i < n → Ex F1 F' → Ex F' H' → Pv i σ' F' H' →
        ts { D with nx := fun σ2 H2 => ∃ F2, Ex F1 F2 ∧ Ex F2 H2 ∧ Pv (i + 1) σ2 F2 H2, ct := fun σ2 H2 => ∃ F2, Ex F1 F2 ∧ Ex F2 H2 ∧ Pv (i + 1) σ2 F2 H2, bk := D.nx } (σ'.set j (some (.int (i : Int)))) H') ∧
      ∀ σ' F' H', Ex F1 F' → Ex F' H' → Pv n σ' F' H' → D.nx σ' H') : tFor (iRng1 (tCons ta tNil)) (gName j) ts D σ H := by
  refine h F H (N - c) (.refl e) fa (s.le (by omega)) _ fun v n F1 H1 g1 fa1 s1 p ea => ?_
  obtain ⟨n0, n1⟩ := hn n p
  obtain ⟨m, rfl⟩ : ∃ m : Nat, n = (m : Int) := ⟨n.toNat, by omega⟩
  obtain ⟨Pv, h0, hs, hd⟩ := k m p F1 H1 g1 fa1 s1
  refine ⟨(m : Int), by rw [show v = _ from ea], by omega, by omega, ?_⟩
  rw [Int.toNat_natCast]
  refine for_range (lo := 0) (n := m) (fun i σ' H' => ∃ F', Ex F1 F' ∧ Ex F' H' ∧ Pv i σ' F' H') ⟨F1, Ex.refl _, g1.fh, h0⟩ ?_ ?_
  · rintro i σ' H' hi ⟨F', e1, e2, pv⟩
    have e0 : (0 : Int) + (i : Int) = (i : Int) := Int.zero_add _
    show ts _ (σ'.set j (some (.int ((0 : Int) + (i : Int))))) H'
    rw [e0]
    exact hs i σ' F' H' hi e1 e2 pv
  · rintro σ' H' ⟨F', e1, e2, pv⟩
    exact hd σ' F' H' e1 e2 pv
end
/-- the script, or any list that is only read -/
def rQ (K : PySem.W.Frag) : Rp (List Int) := fun F v ns => ∃ a, v = .ref a ∧ SqL K F a (ns.map V.int)
instance {K : PySem.W.Frag} : Mn (rQ K) := ⟨fun e ⟨a, h1, h2⟩ => ⟨a, h1, Ex.seq e h2⟩⟩
end El

set_option Elab.async false
set_option linter.all false
set_option maxRecDepth 100000
set_option maxHeartbeats 4000000
namespace El
open PySem PySem.Spec L2
/-! ### dicts of whole numbers, as sets -/
def kvsOf (ks : List Nat) : List (Key × V) := ks.map fun k : Nat => ((Sum.inl (k : Int) : Key), V.bl true)
def rDct : Rp (List Nat) := fun F v ks => ∃ a, v = .ref a ∧ F a = some (.dK (kvsOf ks))
instance : Mn rDct := ⟨fun e ⟨a, h1, h2⟩ => ⟨a, h1, e _ _ h2⟩⟩
theorem val_kvs {k : Nat} : ∀ {ks : List Nat}, (valV (kvsOf ks) (Sum.inl (k : Int))).isSome = decide (k ∈ ks)
  | [] => rfl
  | j :: ks => by
    by_cases h : j = k
    · subst h
      rw [show kvsOf (j :: ks) = ((Sum.inl (j : Int) : Key), V.bl true) :: kvsOf ks from rfl, valV_pos rfl, decide_eq_true List.mem_cons_self]
      rfl
    · rw [show kvsOf (j :: ks) = ((Sum.inl (j : Int) : Key), V.bl true) :: kvsOf ks from rfl, valV_neg (fun e => h (by injection e with e; omega)), val_kvs (ks := ks)]
      have : (k ∈ j :: ks) ↔ k ∈ ks := by rw [List.mem_cons]; exact ⟨fun z => z.elim (fun e => absurd e.symm h) id, .inr⟩
      rw [decide_eq_decide.mpr this]
theorem put_kvs {k : Nat} {ks : List Nat} (h : k ∉ ks) : putK (kvsOf ks) (Sum.inl (k : Int)) (.bl true) = kvsOf (ks ++ [k]) := by
  have e : valV (kvsOf ks) (Sum.inl (k : Int)) = none := by
    have := val_kvs (k := k) (ks := ks)
    rw [decide_eq_false h] at this
    cases q : valV (kvsOf ks) (Sum.inl (k : Int)) with
    | none => rfl
    | some v => rw [q] at this; cases this
  rw [putK_new _ e]
  unfold kvsOf
  rw [List.map_append]
  rfl
theorem len_kvs (ks : List Nat) : (kvsOf ks).length = ks.length := List.length_map _
section
variable {K : PySem.W.Frag} {σ : St} {F H F' H' : Hp} {ta tb tc td ty tv te tl to : TE} {α β γ : Type} {R : Rp α} {S : Rp β} {U : Rp γ} {x : α} {y : β} {xs : List α} {ys : List β} {D : Ends} {ts : TS} {d l : Addr} {ks : List Nat} {k : Nat}
theorem ev_din (ha : Ev rNat ta σ F H k) (hd : Ev rDct td σ F H ks) : Ev rBl (tDIn ta td) σ F H (decide (k ∈ ks)) := fun F1 H1 g1 Q q =>
  ha F1 H1 g1 _ fun v F2 H2 g2 r => hd F2 H2 (g1.trans g2) _ fun w F3 H3 g3 ⟨a, e, h⟩ => ⟨a, _, e, by
    cases (show v = _ from r)
    exact DGet.k (k := Sum.inl (k : Int)) (g3.fh _ _ h), by rw [val_kvs]; exact q _ F3 H3 (g2.trans g3) rfl⟩
theorem ev_dnotM (ha : Ev rNat ta σ F H k) (hd : Ev rRef td σ F H d) (h : H d = some (.dK (kvsOf ks))) : Ev rBl (tDNotIn ta td) σ F H (!decide (k ∈ ks)) := fun F1 H1 g1 Q q =>
  ha F1 H1 g1 _ fun v F2 H2 g2 r => hd F2 H2 (g1.trans g2) _ fun w F3 H3 g3 e => ⟨d, _, e, by
    cases (show v = _ from r)
    exact DGet.k (k := Sum.inl (k : Int)) (g3.hx _ _ (g2.hx _ _ (g1.hx _ _ h))), by rw [val_kvs]; exact q _ F3 H3 (g2.trans g3) rfl⟩
theorem ev_lenD (hd : Ev rDct td σ F H ks) : Ev rInt (tCB (fun xs H Q => ∃ a kvs, xs = [V.ref a] ∧ H a = some (.dK kvs) ∧ Q (.int kvs.length) H) (tCons td tNil)) σ F H (ks.length : Int) := fun F1 H1 g1 Q q =>
  hd F1 H1 g1 _ fun v F2 H2 g2 ⟨a, e, h⟩ => ⟨a, _, by rw [e], g2.fh _ _ h, q _ F2 H2 g2 (by rw [len_kvs]; rfl)⟩
theorem x_dict {i : Nat} (k : ∀ p, H p = none → D.nx (σ.set i (some (.ref p))) (upd H p (.dK (kvsOf [])))) : tAsg tDNewK (gName i) D σ H := fun p hp => k p hp
theorem x_dput (e : Ex F H) (hv : Ev rBl tv σ F H true) (hd : Ev rRef td σ F H d) (hy : Ev rNat ty σ F H k) (h : H d = some (.dK (kvsOf ks))) (hn : k ∉ ks) (hz : ks.length < sizeLine)
    (kk : ∀ F' H', Gr M0 F H F' H' → H' d = some (.dK (kvsOf ks)) → D.nx σ (upd H' d (.dK (kvsOf (ks ++ [k]))))) : sDPut td ty tv D σ H :=
  hv F H (.refl e) _ fun v F1 H1 g1 r1 => hd F1 H1 g1 _ fun w F2 H2 g2 r2 => hy F2 H2 (g1.trans g2) _ fun u F3 H3 g3 r3 => by
    cases (show v = _ from r1)
    cases (show u = _ from r3)
    have h3 := g3.hx _ _ (g2.hx _ _ (g1.hx _ _ h))
    refine ⟨d, _, r2, DPut.k (k := Sum.inl (k : Int)) h3 (by rw [len_kvs]; exact hz), ?_⟩
    rw [put_kvs hn]
    exact kk F3 H3 ((g1.trans g2).trans g3) h3
theorem x_pop {i w : Nat} {vs : List V} {y : V} (hv : σ[w]? = some (some (.ref l))) (hl : H l = some (.lst vs)) (hy : vs[vs.length - 1]? = some y) (k : D.nx (σ.set i (some y)) (upd H l (.lst vs.dropLast))) : tAsg (tBM0 K "list" rPop (tVar w)) (gName i) D σ H :=
  ⟨.ref l, hv, .inl ⟨rfl, vs, SqL.of hl⟩, l, vs, y, rfl, rfl, hl, hy, k⟩
theorem x_listM {i : Nat} (e : Ex F H) (h : Ev (rLst R) te σ F H xs) (k : ∀ vs l F' H', Gr M0 F H F' H' → Paired (R F') vs xs → H' l = none → D.nx (σ.set i (some (.ref l))) (upd H' l (.lst vs))) : tAsg (tCB (rListS K) (tCons te tNil)) (gName i) D σ H :=
  h F H (.refl e) _ fun v F' H' g ⟨a, vs, ea, hl, p⟩ => ⟨a, vs, by rw [ea], .inl (SqL.of (g.fh _ _ hl)), fun l hl' => k vs l F' H' g p hl'⟩
/-- xs != [], of a list that may change -/
abbrev dtN : Dt (rLst rNat) := inferInstance
theorem dtN_dep : dtN.dep ≤ 64 := by decide
theorem ev_neNilM {ns : List Nat} (ha : Ev rRef ta σ F H l) (hl : H l = some (.lst (ns.map fun n : Nat => V.int (n : Int)))) : Ev rBl (tOp (rNeD K) ta (tLst tNil)) σ F H (!decide (ns = [])) := fun F1 H1 g1 Q q =>
  ha F1 H1 g1 _ fun v F2 H2 g2 r => ⟨Nat.zero_le _, fun p hp => by
    have x2 : Ex H H2 := (g1.hx).trans g2.hx
    have g3 : Gr M0 F2 H2 (upd F2 p (.lst [])) (upd H2 p (.lst [])) := .new g2.fh hp
    have pm : ∀ (HH : Hp) (ks : List Nat), Paired (rNat HH) (ks.map fun k : Nat => V.int (k : Int)) ks := fun HH ks => by
      induction ks with
      | nil => exact .nil
      | cons a l ih => exact .cons rfl ih
    have r1 : rLst rNat H v ns := ⟨l, _, r, hl, pm _ _⟩
    have r2 : rLst rNat (upd F2 p (.lst [])) (.ref p) [] := ⟨p, [], rfl, upd_same, .nil⟩
    refine ⟨dtN.data ns, dtN.data [], dtN.rep (x2.trans g3.hx) r1, dtN.rep g3.fh r2, shapedD dtN dtN_dep _, shapedD dtN dtN_dep _, ?_⟩
    have e : PyData.eqv (dtN.data ns) (dtN.data []) = decide (ns = []) := by
      by_cases z : ns = []
      · rw [decide_eq_true z]; exact (dtN.eqv _ _).mpr z
      · rw [decide_eq_false z]
        cases q : PyData.eqv (dtN.data ns) (dtN.data []) with
        | false => rfl
        | true => exact absurd ((dtN.eqv _ _).mp q) z
    rw [e]
    exact q _ _ _ (g2.trans g3) rfl⟩
/-! ### loops with pairs -/
theorem x_forLP {i j : Nat} (e : Ex F H) (h : Ev (rLst (rPr R S)) tl σ F H ps) (Pv : Nat → St → Hp → Hp → Prop) (h0 : ∀ F1 H1, Gr M0 F H F1 H1 → Pv 0 σ F1 H1)
    (hs : ∀ F1, Ex F F1 → ∀ n x v w σ' F' H', ps[n]? = some x → Ex F1 F' → Ex F' H' → R F' v x.1 → S F' w x.2 → Pv n σ' F' H' →
      ts { D with nx := fun σ2 H2 => ∃ F2, Ex F1 F2 ∧ Ex F2 H2 ∧ Pv (n + 1) σ2 F2 H2, ct := fun σ2 H2 => ∃ F2, Ex F1 F2 ∧ Ex F2 H2 ∧ Pv (n + 1) σ2 F2 H2, bk := D.nx } ((σ'.set i (some v)).set j (some w)) H')
    (hd : ∀ σ' F' H', Ex F F' → Ex F' H' → Pv ps.length σ' F' H' → D.nx σ' H') (m : Mn R := by infer_instance) (m2 : Mn S := by infer_instance) : tFor (iList K tl) (gTup K 2 (gCons (gName i) (gCons (gName j) gNil))) ts D σ H := by
  refine h F H (.refl e) _ fun v F1 H1 g1 ⟨a, vs, ea, hl, p⟩ => ⟨a, ea, ⟨vs, SqL.of (g1.fh _ _ hl)⟩, ?_⟩
  refine for_list (xs := vs) (fun i σ' H' => ∃ F', Ex F1 F' ∧ Ex F' H' ∧ Pv i σ' F' H') ⟨F1, Ex.refl _, g1.fh, h0 F1 H1 g1⟩ (fun i σ' H' _ ⟨F', e1, e2, _⟩ => SqL.of (e2 _ _ (e1 _ _ hl))) ?_ ?_
  · rintro n w σ' H' hi ⟨F', e1, e2, pv⟩
    obtain ⟨x, hx, rx⟩ := Paired.getL p hi
    obtain ⟨b, u, w, eb, hb, r1, r2⟩ := Mn.mono e1 rx
    subst eb
    exact ⟨b, [u, w], rfl, SqT.of (e2 _ _ hb), rfl, u, [w], rfl, w, [], rfl, rfl, hs F1 g1.ff n x u w σ' F' H' hx e1 e2 r1 r2 pv⟩
  · rintro σ' H' ⟨F', e1, e2, pv⟩
    rw [p.length] at pv
    exact hd σ' F' H' (g1.ff.trans e1) e2 pv
theorem x_forE {i j : Nat} (e : Ex F H) (h : Ev (rLst R) tl σ F H xs) (Pv : Nat → St → Hp → Hp → Prop) (h0 : ∀ F1 H1, Gr M0 F H F1 H1 → Pv 0 σ F1 H1)
    (hst : ∀ n σ' F' H' F2 H2, Gr M0 F' H' F2 H2 → Pv n σ' F' H' → Pv n σ' F2 H2)
    (hs : ∀ F1, Ex F F1 → ∀ n x v σ' F' H', xs[n]? = some x → Ex F1 F' → Ex F' H' → R F' v x → Pv n σ' F' H' →
      ts { D with nx := fun σ2 H2 => ∃ F2, Ex F1 F2 ∧ Ex F2 H2 ∧ Pv (n + 1) σ2 F2 H2, ct := fun σ2 H2 => ∃ F2, Ex F1 F2 ∧ Ex F2 H2 ∧ Pv (n + 1) σ2 F2 H2, bk := D.nx } ((σ'.set i (some (.int (n : Int)))).set j (some v)) H')
    (hd : ∀ σ' F' H', Ex F F' → Ex F' H' → Pv xs.length σ' F' H' → D.nx σ' H') (m : Mn R := by infer_instance) : tFor (iEnum K (tCons tl tNil)) (gTup K 2 (gCons (gName i) (gCons (gName j) gNil))) ts D σ H := by
  refine h F H (.refl e) _ fun v F1 H1 g1 ⟨a, vs, ea, hl, p⟩ => ⟨a, vs, by rw [ea], SqL.of (g1.fh _ _ hl), ?_⟩
  refine for_it walk_enum (fun i σ' H' => ∃ F', Ex F1 F' ∧ Ex F' H' ∧ Pv i σ' F' H') ⟨F1, Ex.refl _, g1.fh, h0 F1 H1 g1⟩ (fun i σ' H' _ ⟨F', e1, e2, _⟩ => SqL.of (e2 _ _ (e1 _ _ hl))) ?_ ?_
  · rintro n w σ' H' H2 hi ⟨F', e1, e2, pv⟩ ⟨T, u, w2, rfl, hT, rfl, h1, h2⟩
    obtain ⟨x, hx, rx⟩ := Paired.getL p h2
    cases h1
    have g2 : Gr M0 F' H' F' (upd H' T (.tup [.int (n : Nat), w2])) := .loc e2 hT
    exact ⟨T, [.int (n : Nat), w2], rfl, SqT.of upd_same, rfl, _, [w2], rfl, w2, [], rfl, rfl, hs F1 g1.ff n x w2 σ' F' _ hx e1 g2.fh (m.mono e1 rx) (hst _ _ _ _ _ _ g2 pv)⟩
  · rintro σ' H' ⟨F', e1, e2, pv⟩
    rw [p.length] at pv
    exact hd σ' F' H' (g1.ff.trans e1) e2 pv
end
end El

set_option Elab.async false
set_option linter.all false
set_option maxRecDepth 100000
set_option maxHeartbeats 4000000
namespace El
open PySem PySem.Spec L2
theorem take_filter_succ {α β : Type} {p : α → Bool} {f : α → β} {xs : List α} {i : Nat} {x : α} (hx : xs[i]? = some x) : ((xs.take (i + 1)).filter p).map f = if p x = true then ((xs.take i).filter p).map f ++ [f x] else ((xs.take i).filter p).map f := by
  rw [List.take_add_one, hx, List.filter_append]
  show List.map f (_ ++ List.filter p [x]) = _
  rw [List.filter_cons]
  split
  · rw [List.map_append]; rfl
  · rw [List.filter_nil, List.append_nil]
section
variable {K : PySem.W.Frag} {σ : St} {F H F' H' : Hp} {ta tb tc td ty tv te tl to : TE} {tt : TT} {α β γ : Type} {R : Rp α} {S : Rp β} {U : Rp γ} {x : α} {y : β} {xs : List α} {ys : List β} {D : Ends} {ts : TS}
theorem et_yes : EvT tYes σ F H true := fun F1 H1 g Q q => q F1 H1 (.refl g.fh)
/-- [elt for x in list if test] -/
theorem ev_lcF (p : α → Bool) (f : α → γ) {n : Nat} {vs : List Nat} (h : Ev (rLst R) tl σ F H xs) (hz : xs.length ≤ 1000000) (hw : ∀ v, wipe ((wipe σ vs).set n (some v)) vs = wipe σ vs)
    (ht : ∀ (i : Nat) x v F1 H1, xs[i]? = some x → Gr M0 F H F1 H1 → R F1 v x → EvT tt ((wipe σ vs).set n (some v)) F1 H1 (p x))
    (he : ∀ (i : Nat) x v F1 H1, xs[i]? = some x → p x = true → Gr M0 F H F1 H1 → R F1 v x → Ev U te ((wipe σ vs).set n (some v)) F1 H1 (f x)) (m : Mn R := by infer_instance) (m' : Mn U := by infer_instance) : Ev (rLst U) (tLc (iList K tl) (gName n) tt te vs) σ F H ((xs.filter p).map f) := by
  intro F1 H1 g1 Q q
  refine h F1 H1 g1 _ fun v F2 H2 g2 ⟨a, ws, ea, hl, pr⟩ => ⟨a, ea, ⟨ws, SqL.of (g2.fh _ _ hl)⟩, fun D hD => ?_⟩
  refine lc_list (xs := ws) (fun i H' => ∃ F' us, Gr M0 F2 H2 F' H' ∧ F' D = none ∧ H' D = some (.lst us) ∧ Paired (U F') us (((xs.take i).filter p).map f)) ⟨F2, [], .loc g2.fh hD, g2.fh.free hD, upd_same, .nil⟩ (fun i H' _ ⟨F', us, g, _⟩ => SqL.of (g.fh _ _ (g.ff _ _ hl))) ?_ ?_
  · rintro i w H' hi ⟨F', us, g, fD, hD', pu⟩
    obtain ⟨x, hx, rx⟩ := Paired.getL pr hi
    have rx' := m.mono g.ff rx
    refine ⟨hw w, ?_⟩
    refine ht i x w F' H' hx ((g1.trans g2).trans g) rx' F' H' (.refl g.fh) _ fun F3 H3 g3 => ?_
    have e3 := take_filter_succ (p := p) (f := f) hx
    cases hp : p x with
    | false =>
      rw [hp] at e3
      refine ⟨F3, us, g.trans g3, g3.nn hD' fD, g3.hx _ _ hD', ?_⟩
      rw [e3]
      exact Paired.up g3.ff pu
    | true =>
      rw [hp] at e3
      refine he i x w F3 H3 hx hp (((g1.trans g2).trans g).trans g3) (m.mono g3.ff rx') F3 H3 (.refl g3.fh) _ fun u F4 H4 g4 r4 => ?_
      have g34 := g3.trans g4
      refine ⟨us, g34.hx _ _ hD', ?_, F4, us ++ [u], (g.trans g34).set' (g34.nn hD' fD) (.inl hD), g34.nn hD' fD, upd_same, ?_⟩
      · rw [pu.length, List.length_map, sizeLine_eq]
        have := List.length_filter_le p (xs.take i)
        rw [List.length_take] at this
        omega
      · rw [e3]
        exact (Paired.up g34.ff pu).snoc r4
  · rintro H' ⟨F', us, g, fD, hD', pu⟩
    rw [pr.length, List.take_length] at pu
    exact q _ _ _ (g2.trans (g.frz hD' (g2.fh.free hD) (.inl hD))) ⟨D, us, rfl, upd_same, Paired.up (g.fh.frz hD' fD) pu⟩
/-- [elt for k in range(n) if test] -/
theorem ev_lcRF (p : Nat → Bool) (f : Nat → γ) {n j : Nat} {vs : List Nat} (h : Ev rInt ta σ F H (n : Int)) (hz : n ≤ 1000000) (hw : ∀ v, wipe ((wipe σ vs).set j (some v)) vs = wipe σ vs)
    (ht : ∀ (i : Nat) F1 H1, i < n → Gr M0 F H F1 H1 → EvT tt ((wipe σ vs).set j (some (.int (i : Int)))) F1 H1 (p i))
    (he : ∀ (i : Nat) F1 H1, i < n → p i = true → Gr M0 F H F1 H1 → Ev U te ((wipe σ vs).set j (some (.int (i : Int)))) F1 H1 (f i)) (m' : Mn U := by infer_instance) : Ev (rLst U) (tLc (iRng1 (tCons ta tNil)) (gName j) tt te vs) σ F H (((List.range n).filter p).map f) := by
  intro F1 H1 g1 Q q
  refine h F1 H1 g1 _ fun v F2 H2 g2 ea => ⟨(n : Int), by rw [show v = _ from ea], by omega, by omega, fun D hD => ?_⟩
  rw [Int.toNat_natCast]
  refine lc_range (lo := 0) (n := n) (fun i H' => ∃ F' us, Gr M0 F2 H2 F' H' ∧ F' D = none ∧ H' D = some (.lst us) ∧ Paired (U F') us ((((List.range n).take i).filter p).map f)) ⟨F2, [], .loc g2.fh hD, g2.fh.free hD, upd_same, .nil⟩ ?_ ?_
  · rintro i H' hi ⟨F', us, g, fD, hD', pu⟩
    have hx : (List.range n)[i]? = some i := List.getElem?_range hi
    have e0 : (0 : Int) + (i : Int) = (i : Int) := Int.zero_add _
    rw [e0]
    refine ⟨hw _, ?_⟩
    refine ht i F' H' hi ((g1.trans g2).trans g) F' H' (.refl g.fh) _ fun F3 H3 g3 => ?_
    have e3 := take_filter_succ (p := p) (f := f) hx
    cases hp : p i with
    | false =>
      rw [hp] at e3
      refine ⟨F3, us, g.trans g3, g3.nn hD' fD, g3.hx _ _ hD', ?_⟩
      rw [e3]
      exact Paired.up g3.ff pu
    | true =>
      rw [hp] at e3
      refine he i F3 H3 hi hp (((g1.trans g2).trans g).trans g3) F3 H3 (.refl g3.fh) _ fun u F4 H4 g4 r4 => ?_
      have g34 := g3.trans g4
      refine ⟨us, g34.hx _ _ hD', ?_, F4, us ++ [u], (g.trans g34).set' (g34.nn hD' fD) (.inl hD), g34.nn hD' fD, upd_same, ?_⟩
      · rw [pu.length, List.length_map, sizeLine_eq]
        have := List.length_filter_le p ((List.range n).take i)
        rw [List.length_take, List.length_range] at this
        omega
      · rw [e3]
        exact (Paired.up g34.ff pu).snoc r4
  · rintro H' ⟨F', us, g, fD, hD', pu⟩
    rw [List.take_of_length_le (by rw [List.length_range]; exact Nat.le_refl _)] at pu
    exact q _ _ _ (g2.trans (g.frz hD' (g2.fh.free hD) (.inl hD))) ⟨D, us, rfl, upd_same, Paired.up (g.fh.frz hD' fD) pu⟩
/-- [elt for x, y in pairs if test] -/
theorem ev_lcPF (p : α × β → Bool) (f : α × β → γ) {ps : List (α × β)} {n j : Nat} {vs : List Nat} (h : Ev (rLst (rPr R S)) tl σ F H ps) (hz : ps.length ≤ 1000000) (hw : ∀ v w, wipe (((wipe σ vs).set n (some v)).set j (some w)) vs = wipe σ vs)
    (ht : ∀ (i : Nat) x v w F1 H1, ps[i]? = some x → Gr M0 F H F1 H1 → R F1 v x.1 → S F1 w x.2 → EvT tt (((wipe σ vs).set n (some v)).set j (some w)) F1 H1 (p x))
    (he : ∀ (i : Nat) x v w F1 H1, ps[i]? = some x → p x = true → Gr M0 F H F1 H1 → R F1 v x.1 → S F1 w x.2 → Ev U te (((wipe σ vs).set n (some v)).set j (some w)) F1 H1 (f x)) (m : Mn R := by infer_instance) (m2 : Mn S := by infer_instance) (m' : Mn U := by infer_instance) :
    Ev (rLst U) (tLc (iList K tl) (gTup K 2 (gCons (gName n) (gCons (gName j) gNil))) tt te vs) σ F H ((ps.filter p).map f) := by
  intro F1 H1 g1 Q q
  refine h F1 H1 g1 _ fun v F2 H2 g2 ⟨a, ws, ea, hl, pr⟩ => ⟨a, ea, ⟨ws, SqL.of (g2.fh _ _ hl)⟩, fun D hD => ?_⟩
  refine lc_list (xs := ws) (fun i H' => ∃ F' us, Gr M0 F2 H2 F' H' ∧ F' D = none ∧ H' D = some (.lst us) ∧ Paired (U F') us (((ps.take i).filter p).map f)) ⟨F2, [], .loc g2.fh hD, g2.fh.free hD, upd_same, .nil⟩ (fun i H' _ ⟨F', us, g, _⟩ => SqL.of (g.fh _ _ (g.ff _ _ hl))) ?_ ?_
  · rintro i w H' hi ⟨F', us, g, fD, hD', pu⟩
    obtain ⟨x, hx, rx⟩ := Paired.getL pr hi
    obtain ⟨b, u1, u2, eb, hb, r1, r2⟩ := Mn.mono g.ff rx
    subst eb
    refine ⟨b, [u1, u2], rfl, SqT.of (g.fh _ _ hb), rfl, u1, [u2], rfl, u2, [], rfl, rfl, hw _ _, ?_⟩
    refine ht i x u1 u2 F' H' hx ((g1.trans g2).trans g) r1 r2 F' H' (.refl g.fh) _ fun F3 H3 g3 => ?_
    have e3 := take_filter_succ (p := p) (f := f) hx
    cases hp : p x with
    | false =>
      rw [hp] at e3
      refine ⟨F3, us, g.trans g3, g3.nn hD' fD, g3.hx _ _ hD', ?_⟩
      rw [e3]
      exact Paired.up g3.ff pu
    | true =>
      rw [hp] at e3
      refine he i x u1 u2 F3 H3 hx hp (((g1.trans g2).trans g).trans g3) (m.mono g3.ff r1) (m2.mono g3.ff r2) F3 H3 (.refl g3.fh) _ fun u F4 H4 g4 r4 => ?_
      have g34 := g3.trans g4
      refine ⟨us, g34.hx _ _ hD', ?_, F4, us ++ [u], (g.trans g34).set' (g34.nn hD' fD) (.inl hD), g34.nn hD' fD, upd_same, ?_⟩
      · rw [pu.length, List.length_map, sizeLine_eq]
        have := List.length_filter_le p (ps.take i)
        rw [List.length_take] at this
        omega
      · rw [e3]
        exact (Paired.up g34.ff pu).snoc r4
  · rintro H' ⟨F', us, g, fD, hD', pu⟩
    rw [pr.length, List.take_length] at pu
    exact q _ _ _ (g2.trans (g.frz hD' (g2.fh.free hD) (.inl hD))) ⟨D, us, rfl, upd_same, Paired.up (g.fh.frz hD' fD) pu⟩
/-- x = [[] for k in range(n)]: n lists that may change -/
theorem x_lists {i j n : Nat} {vs : List Nat} (e : Ex F H) (h : Ev rInt ta σ F H (n : Int)) (hz : n ≤ 1000000) (hw : ∀ v, wipe ((wipe σ vs).set j (some v)) vs = wipe σ vs)
    (k : ∀ (l : Addr) (as : List Addr) F' H', Gr M0 F H F' H' → as.length = n → H l = none → F' l = none → H' l = some (.lst (as.map V.ref)) → as.Nodup → (∀ b ∈ as, H b = none ∧ F' b = none ∧ H' b = some (.lst []) ∧ b ≠ l) → D.nx (σ.set i (some (.ref l))) H') : tAsg (tLc (iRng1 (tCons ta tNil)) (gName j) tYes (tLst tNil) vs) (gName i) D σ H := by
  refine h F H (.refl e) _ fun v F2 H2 g2 ea => ⟨(n : Int), by rw [show v = _ from ea], by omega, by omega, fun B hB => ?_⟩
  rw [Int.toNat_natCast]
  have hB0 : H B = none := Ex.free g2.hx hB
  refine lc_range (lo := 0) (n := n) (fun i H' => ∃ as : List Addr, Gr M0 F H F2 H' ∧ as.length = i ∧ F2 B = none ∧ H' B = some (.lst (as.map V.ref)) ∧ as.Nodup ∧ ∀ b ∈ as, H b = none ∧ F2 b = none ∧ H' b = some (.lst []) ∧ b ≠ B)
    ⟨[], g2.trans (.loc g2.fh hB), rfl, g2.fh.free hB, upd_same, List.nodup_nil, fun _ h => nomatch h⟩ ?_ ?_
  · rintro i H' hi ⟨as, g, hl, fB, hB', nd, hb⟩
    refine ⟨hw _, Nat.zero_le _, fun c hc => ?_⟩
    have hcB : c ≠ B := fun z => by subst z; rw [hB'] at hc; cases hc
    have hcn : c ∉ as := fun z => by rw [(hb c z).2.2.1] at hc; cases hc
    have g3 := g.trans (Gr.loc g.fh hc (o := .lst []))
    have fc : F2 c = none := g.fh.free hc
    have hc0 : H c = none := Ex.free g.hx hc
    refine ⟨as.map V.ref, by rw [upd_ne hcB.symm]; exact hB', by rw [List.length_map, hl, sizeLine_eq]; omega, as ++ [c], g3.set' fB (.inl hB0), by rw [List.length_append, hl]; rfl, fB, by rw [upd_same, List.map_append]; rfl, ?_, fun b hbm => ?_⟩
    · refine List.nodup_append.mpr ⟨nd, by simp, fun x hx y hy => ?_⟩
      rw [List.mem_singleton.mp hy]
      intro z
      rw [z] at hx
      exact hcn hx
    · rcases List.mem_append.mp hbm with h | h
      · obtain ⟨h1, h2, h3, h4⟩ := hb b h
        refine ⟨h1, h2, ?_, h4⟩
        rw [upd_ne h4, upd_ne (fun z : b = c => hcn (by rw [← z]; exact h))]
        exact h3
      · rw [List.mem_singleton.mp h]
        exact ⟨hc0, fc, by rw [upd_ne hcB, upd_same], hcB⟩
  · rintro H' ⟨as, g, hl, fB, hB', nd, hb⟩
    exact k B as F2 H' g hl hB0 fB hB' nd hb
end
/-- things that may change are frozen, all of them -/
theorem Gr.frzs {M : Addr → Prop} {F0 H0 H : Hp} (e : Ex F0 H0) : ∀ {as : List Addr} {F : Hp}, Gr M F0 H0 F H → (∀ b ∈ as, H b ≠ none ∧ H0 b = none) → ∃ F', Gr M F0 H0 F' H ∧ Ex F F' ∧ ∀ b ∈ as, F' b = H b
  | [], F, g, _ => ⟨F, g, Ex.refl F, fun _ h => nomatch h⟩
  | a :: as, F, g, h => by
    obtain ⟨h1, h2⟩ := h a List.mem_cons_self
    obtain ⟨o, ho⟩ : ∃ o, H a = some o := by
      cases q : H a with
      | none => exact absurd q h1
      | some o => exact ⟨o, rfl⟩
    obtain ⟨F1, g1, e1, k1⟩ : ∃ F1, Gr M F0 H0 F1 H ∧ Ex F F1 ∧ F1 a = H a := by
      cases q : F a with
      | none => exact ⟨_, g.frz ho (e.free h2) (.inl h2), Ex.new q, by rw [upd_same, ho]⟩
      | some o' => exact ⟨F, g, Ex.refl F, by rw [q, g.fh _ _ q]⟩
    obtain ⟨F', g', e', k'⟩ := Gr.frzs e g1 fun b hb => h b (List.mem_cons_of_mem _ hb)
    refine ⟨F', g', e1.trans e', fun b hb => ?_⟩
    rcases List.mem_cons.mp hb with rfl | hb
    · rw [ho]
      exact e' _ _ (by rw [k1, ho])
    · exact k' b hb
end El

set_option Elab.async false
set_option linter.all false
set_option maxRecDepth 100000
set_option maxHeartbeats 4000000
namespace El
open PySem PySem.Spec L2
def onM (n : Nat) (ps : List (Nat × Nat)) : List (List Nat) := (List.range n).map fun x => (ps.filter fun p => p.1 == x).map (·.2)
def dfs (on : List (List Nat)) : Nat → List Nat → List Nat → List Nat
  | 0, _, r => r
  | m + 1, w, r => match w.getLast? with
    | none => r
    | some one => if one ∈ r then dfs on m w.dropLast r else dfs on m (w.dropLast ++ on.getD one []) (r ++ [one])
def fuelM (n : Nat) (ps : List (Nat × Nat)) : Nat := n * (ps.length + 1) + ps.length
def aboveM (n : Nat) (ps : List (Nat × Nat)) : List (List Nat) := (List.range n).map fun p => dfs (onM n ps) (fuelM n ps) ((onM n ps).getD p []) []
def measM (n L : Nat) (w r : List Nat) : Nat := (n - r.length) * (L + 1) + w.length
theorem dfs_nil (on : List (List Nat)) (m : Nat) (r : List Nat) : dfs on m [] r = r := by cases m <;> rfl
theorem dfs_old {on : List (List Nat)} {m : Nat} {w r : List Nat} {one : Nat} (h : one ∈ r) : dfs on (m + 1) (w ++ [one]) r = dfs on m w r := by
  unfold dfs
  simp [h]
  cases m <;> rfl
theorem dfs_new {on : List (List Nat)} {m : Nat} {w r : List Nat} {one : Nat} (h : one ∉ r) : dfs on (m + 1) (w ++ [one]) r = dfs on m (w ++ on.getD one []) (r ++ [one]) := by
  rw [show dfs on (m + 1) (w ++ [one]) r = dfs on (Nat.succ m) (w ++ [one]) r from rfl, dfs]
  rw [List.getLast?_concat, List.dropLast_concat]
  show (if one ∈ r then _ else _) = _
  rw [if_neg h]
theorem on_len {n : Nat} {ps : List (Nat × Nat)} : (onM n ps).length = n := by unfold onM; rw [List.length_map, List.length_range]
theorem on_get {n : Nat} {ps : List (Nat × Nat)} {x : Nat} (h : x < n) : (onM n ps).getD x [] = (ps.filter fun p => p.1 == x).map (·.2) := by
  unfold onM
  rw [List.getD_eq_getElem?_getD, List.getElem?_map, List.getElem?_range h]
  rfl
theorem on_at {n : Nat} {ps : List (Nat × Nat)} {x : Nat} (h : x < n) : (onM n ps)[x]? = some ((onM n ps).getD x []) := getD_at (by rw [on_len]; exact h)
theorem on_le {n : Nat} {ps : List (Nat × Nat)} {x : Nat} : ((onM n ps).getD x []).length ≤ ps.length := by
  by_cases h : x < n
  · rw [on_get h, List.length_map]
    exact List.length_filter_le _ _
  · rw [List.getD_eq_getElem?_getD, List.getElem?_eq_none (by rw [on_len]; omega)]
    exact Nat.zero_le _
theorem on_mem {n : Nat} {ps : List (Nat × Nat)} {x y : Nat} (hp : ∀ p ∈ ps, p.1 < n ∧ p.2 < n) (h : y ∈ (onM n ps).getD x []) : y < n := by
  by_cases hx : x < n
  · rw [on_get hx] at h
    obtain ⟨p, hp1, rfl⟩ := List.mem_map.mp h
    exact (hp p (List.mem_filter.mp hp1).1).2
  · rw [List.getD_eq_getElem?_getD, List.getElem?_eq_none (by rw [on_len]; omega)] at h
    cases h
theorem on_step {n : Nat} {ps : List (Nat × Nat)} {k i : Nat} {p : Nat × Nat} (hp : ps[k]? = some p) (hi : i < n) : (onM n (ps.take (k + 1))).getD i [] = if p.1 = i then (onM n (ps.take k)).getD i [] ++ [p.2] else (onM n (ps.take k)).getD i [] := by
  rw [on_get hi, on_get hi, take_filter_succ (f := (·.2)) hp]
  by_cases h : p.1 = i
  · rw [if_pos h, if_pos (by simp [h])]
  · rw [if_neg h, if_neg (by simp [h])]
theorem nodup_lt {n : Nat} {r : List Nat} (nd : r.Nodup) (h : ∀ y ∈ r, y < n) : r.length ≤ n := by
  have := L2.nat_nodup_len r (List.range n) nd fun x hx => List.mem_range.mpr (h x hx)
  rw [List.length_range] at this
  exact this
theorem above_len {n : Nat} {ps : List (Nat × Nat)} : (aboveM n ps).length = n := by unfold aboveM; rw [List.length_map, List.length_range]
theorem above_get {n : Nat} {ps : List (Nat × Nat)} {x : Nat} (h : x < n) : (aboveM n ps)[x]? = some (dfs (onM n ps) (fuelM n ps) ((onM n ps).getD x []) []) := by
  unfold aboveM
  rw [List.getElem?_map, List.getElem?_range h]
  rfl
theorem meas_old {n L : Nat} {w r : List Nat} {one : Nat} : measM n L w r < measM n L (w ++ [one]) r := by
  unfold measM
  rw [List.length_append]
  show _ < _ + (_ + 1)
  omega
theorem meas_new {n L : Nat} {w r more : List Nat} {one : Nat} (hm : more.length ≤ L) (hr : r.length < n) : measM n L (w ++ more) (r ++ [one]) < measM n L (w ++ [one]) r := by
  unfold measM
  rw [List.length_append, List.length_append, List.length_append]
  have e : n - r.length = (n - (r.length + [one].length)) + 1 := by show _ = n - (r.length + 1) + 1; omega
  rw [e, Nat.succ_mul]
  show _ < _ + (_ + 1)
  omega
theorem paired_of {α β : Type} {F : α → β → Prop} : ∀ {as : List α} {bs : List β}, as.length = bs.length → (∀ (i : Nat) a b, as[i]? = some a → bs[i]? = some b → F a b) → Paired F as bs
  | [], [], _, _ => .nil
  | a :: as, b :: bs, hl, h => .cons (h 0 a b rfl rfl) (paired_of (by simpa using hl) fun i x y hx hy => h (i + 1) x y (by simpa using hx) (by simpa using hy))
theorem nats_P (HH : Hp) : ∀ ks : List Nat, Paired (rNat HH) (ks.map fun k : Nat => V.int (k : Int)) ks
  | [] => .nil
  | _ :: l => .cons rfl (nats_P HH l)
theorem nats_eq {H : Hp} {vs : List V} {ns : List Nat} (p : Paired (rNat H) vs ns) : vs = ns.map fun n : Nat => V.int (n : Int) := by rw [nats_paired p, List.map_map]; rfl
end El

set_option Elab.async false
set_option linter.all false
set_option maxRecDepth 100000
set_option maxHeartbeats 4000000
namespace El
open PySem PySem.Spec L2
/-! ### orders -/
def rOrder (C : Addr) : Rp (List (List Nat)) := fun H v hs => ∃ a dx l, v = .ref a ∧ H a = some (.ins C dx [("higher", l)]) ∧ rLst rDct H l hs
instance {C : Addr} : Mn (rOrder C) := ⟨fun e ⟨a, dx, l, h1, h2, h3⟩ => ⟨a, dx, l, h1, e _ _ h2, Mn.mono e h3⟩⟩
instance {C : Addr} : NotN (rOrder C) := ⟨fun ⟨_, _, _, h, _⟩ e => by rw [h] at e; cases e⟩
instance {C : Addr} : IsI (rOrder C) C "__len__" := ⟨fun ⟨a, dx, l, h1, h2, h3⟩ => ⟨a, dx, _, h1, h2, rfl⟩⟩
instance {C : Addr} : IsI (rOrder C) C "at_most" := ⟨fun ⟨a, dx, l, h1, h2, h3⟩ => ⟨a, dx, _, h1, h2, rfl⟩⟩
instance {C : Addr} : IsI (rOrder C) C "least" := ⟨fun ⟨a, dx, l, h1, h2, h3⟩ => ⟨a, dx, _, h1, h2, rfl⟩⟩
instance {C : Addr} : IsI (rOrder C) C "greatest" := ⟨fun ⟨a, dx, l, h1, h2, h3⟩ => ⟨a, dx, _, h1, h2, rfl⟩⟩
theorem fld_higher {K : PySem.W.Frag} {C : Addr} (c : Cls K C) (n : NoAttr K C "higher") : IsF (rOrder C) K "higher" (rLst rDct) id := ⟨fun ⟨a, dx, l, h1, h2, h3⟩ => ⟨a, C, dx, _, _, h1, h2, c, n, rfl, h3⟩⟩
def GoodO (n : Nat) (ps : List (Nat × Nat)) : Prop := 1 ≤ n ∧ n ≤ 32 ∧ ps.length ≤ 100 ∧ (∀ p ∈ ps, p.1 < n ∧ p.2 < n ∧ p.1 ≠ p.2) ∧ ∀ p, p < n → p ∉ (aboveM n ps).getD p []
def SpOrder (C : Addr) : Sp := fun vs H Q _ => ∃ (F : Hp) (a dx : Addr) (l : V) (n : Nat) (ps : List (Nat × Nat)), vs = [.ref a, .int (n : Int), l] ∧ Ex F H ∧ F a = none ∧ H a = some (.ins C dx []) ∧ rLst (rPr rNat rNat) F l ps ∧ GoodO n ps ∧
  ∀ F' H', Gr (M1 a) F H F' H' → rOrder C F' (.ref a) (aboveM n ps) → Q .non H'
instance {C : Addr} : SpLen (SpOrder C) 3 := ⟨fun ⟨_, _, _, _, _, _, h, _⟩ => by rw [h]; rfl⟩
/-- what C(..) makes, in general -/
theorem Gr.made {M : Addr → Prop} {F H F' H' : Hp} {x dx : Addr} {u w : HO} (nx : H x = none) (ndx : H dx = none) (nex : x ≠ dx) (g : Gr (M1 x) F (upd (upd H dx w) x u) F' H') : Gr M0 F H F' H' := ⟨g.ff, g.fh, fun b o _ h => by
    have b1 : b ≠ x := fun z => by subst z; rw [nx] at h; cases h
    have b2 : b ≠ dx := fun z => by subst z; rw [ndx] at h; cases h
    exact g.hh b o b1 (by rw [upd_ne b1, upd_ne b2]; exact h), fun b _ h n => by
    have b1 : b ≠ x := fun z => h (z ▸ nx)
    have b2 : b ≠ dx := fun z => h (z ▸ ndx)
    exact g.nw b b1 (by rw [upd_ne b1, upd_ne b2]; exact h) n, fun b h => by
    have b1 : b ≠ x := fun z => h (z ▸ nx)
    have b2 : b ≠ dx := fun z => h (z ▸ ndx)
    exact g.dm b (by rw [upd_ne b1, upd_ne b2]; exact h)⟩
theorem ev_Order {σ : St} {F H : Hp} {ta tb : TE} {C : Addr} {n : Nat} {ps : List (Nat × Nat)} {E : XK} (ha : Ev rInt ta σ F H (n : Int)) (hb : Ev (rLst (rPr rNat rNat)) tb σ F H ps) (hg : GoodO n ps) : Ev (rOrder C) (tMake C (SpOrder C) [] E (tCons ta (tCons tb tNil))) σ F H (aboveM n ps) := fun F1 H1 g1 Q q =>
  ha F1 H1 g1 _ fun v F2 H2 g2 r => hb F2 H2 (g1.trans g2) _ fun w F3 H3 g3 r3 => fun x dx nx ndx nex => by
    cases (show v = _ from r)
    have e1 : Ex F3 (upd (upd H3 dx (.own x)) x (.ins C dx [])) := (g3.fh.mut (g3.fh.free ndx)).mut (g3.fh.free nx)
    exact ⟨F3, x, dx, w, n, ps, rfl, e1, g3.fh.free nx, upd_same, r3, hg, fun F' H' g k => ⟨rfl, q _ F' H' ((g2.trans g3).trans (.made (M := M0) nx ndx nex.symm g)) k⟩⟩
def atMostM (hs : List (List Nat)) (x y : Nat) : Bool := decide (x = y) || decide (y ∈ hs.getD x [])
def leastM (hs : List (List Nat)) : Option Nat := (List.range hs.length).find? fun p => decide (((hs.getD p []).length : Int) = (hs.length : Int) - 1)
def greatestM (hs : List (List Nat)) : Option Nat := (List.range hs.length).find? fun p => (List.range hs.length).all fun one => atMostM hs one p
end El

set_option Elab.async false
set_option linter.all false
set_option maxRecDepth 100000
set_option maxHeartbeats 4000000
namespace El
open PySem PySem.Spec L2
/-! ### len(set(pairs)) -/
def tLenSetP (K : PySem.W.Frag) (ta : TE) : TE := fun σ H Q => ta σ H fun x H1 => ∃ (l : Addr) (ks : List (Addr × List Int)), x = .ref l ∧ SqL K H1 l (ks.map fun p => V.ref p.1) ∧ (∀ p ∈ ks, SqT K H1 p.1 (p.2.map V.int)) ∧ ks.length < 64 ∧
  ∀ L : List (Addr × List Int), (∀ p ∈ L, p ∈ ks) → (∀ p ∈ ks, p.2 ∈ L.map (·.2)) → (L.map (·.2)).Nodup → Q (.int (L.length : Nat)) H1
open PyProof.Rows in
theorem klensetP {K : PySem.W.Frag} {X : Cx} {a : Expr} {ta : TE} {p p2 q pos : Pos} (hu : X.A.units + 64 < cLine) (hg : Gl X "len") (hm : X.mg "len" = none) (hg2 : Gl X "set") (hm2 : X.mg "set" = none) (ha : PE X a ta) (hc : X.calm = true := by rfl)
    (na : starEach [a] X.env = (false, eval a X.env) :: starEach [] X.env := by rfl) (hK : X.K = K := by rfl) : PE X (.Call (.Name "len" p) [.Call (.Name "set" p2) [a] [] q] [] pos) (tLenSetP K ta) := by
  subst hK
  refine ⟨fun pins s σ H Q I h => ?_⟩
  refine Call_ (ld_blt I hg hm boot_len ?_)
  refine PyProof.Rows.callWith_builtin1 (PyProof.Rows.args_cons ?_ rfl) rfl rfl
  refine Call_ (ld_blt I hg2 hm2 boot_set ?_)
  refine PyProof.Rows.callWith_type1 (PyProof.Rows.args_cons (thn (ha.run pins s σ H _ I h) fun v s1 ⟨x, H1, I1, r1, q1⟩ => PyProof.Rows.args_nil ?_) na) na rfl
  obtain ⟨l, ks, rfl, hq, hk, hf, q1⟩ := q1
  cases r1
  obtain ⟨its, rv, pl, hz⟩ := I1.list hq
  refine L2.call_set_tups (P := X.prog) (w := X.w) ks (I1.ok.hd hc) pl.isList (by simpa using L2.refs_of_vals rv) (fun p hp => I1.isT (hk p hp)) hf (by omega) fun h' tk L es ep t R g k => ?_
  refine PyProof.Rows.args_nil ?_
  obtain ⟨o, ho, hex, hd⟩ := R.ob
  have hs : es.size = L.length := by
    have h := congrArg List.length R.rows
    unfold L2.rowsOf at h
    rw [Array.length_toList, List.length_map] at h
    exact h
  have hfit : t.fits es.size = true := L2.SetTR.fits (s := { s1 with heap := h' }) R
  have I2 : Inv X pins σ H1 { s1 with heap := h', toks := tk } := I1.kept fun b o e => k b o e
  refine call_len_set ho hex hd hfit (by rw [hs]; have := R.few; omega) ⟨.int es.size, H1, I2.tok _, ⟨_, rfl⟩, ?_⟩
  have := q1 L (fun p hp => List.mem_of_mem_take (g.sub p hp)) (fun p hp => g.all p (by rw [List.take_length]; exact hp)) R.nd
  rw [hs]
  exact this
theorem ints_pr {H : Hp} {a : Addr} {x y : V} {p : Nat × Nat} (h : H a = some (.tup [x, y])) (r1 : rNat H x p.1) (r2 : rNat H y p.2) : H a = some (.tup ([(p.1 : Int), (p.2 : Int)].map V.int)) := by
  rw [h, show x = _ from r1, show y = _ from r2]
  rfl
theorem keys_pr {H : Hp} : ∀ {vs : List V} {ps : List (Nat × Nat)}, Paired (rPr rNat rNat H) vs ps → ∃ ks : List (Addr × List Int), vs = ks.map (fun p => V.ref p.1) ∧ ks.map (·.2) = ps.map (fun p => [(p.1 : Int), (p.2 : Int)]) ∧ ∀ p ∈ ks, H p.1 = some (.tup (p.2.map V.int))
  | _, _, .nil => ⟨[], rfl, rfl, fun _ h => nomatch h⟩
  | v :: vs, b :: bs, .cons ⟨a, x, y, e, h, r1, r2⟩ t => by
    obtain ⟨ks, h1, h2, h3⟩ := keys_pr t
    refine ⟨(a, [(b.1 : Int), (b.2 : Int)]) :: ks, by rw [List.map_cons, ← h1, e], by rw [List.map_cons, List.map_cons, h2], fun p hp => ?_⟩
    rcases List.mem_cons.mp hp with rfl | hp
    · exact ints_pr h r1 r2
    · exact h3 p hp
section
variable {K : PySem.W.Frag} {σ : St} {F H F' H' : Hp} {ta tb tc te : TE}
theorem ev_lenSetP {ps : List (Nat × Nat)} (ha : Ev (rLst (rPr rNat rNat)) ta σ F H ps) (hz : ps.length < 64) (nd : ps.Nodup) : Ev rInt (tLenSetP K ta) σ F H (ps.length : Int) := fun F1 H1 g1 Q q =>
  ha F1 H1 g1 _ fun v F2 H2 g2 ⟨a, vs, e, hl, p⟩ => by
    obtain ⟨ks, h1, h2, h3⟩ := keys_pr p
    have hlen : ks.length = ps.length := by
      have := congrArg List.length h2
      rw [List.length_map, List.length_map] at this
      exact this
    refine ⟨a, ks, e, by rw [← h1]; exact SqL.of (g2.fh _ _ hl), fun p hp => SqT.of (g2.fh _ _ (h3 p hp)), by omega, fun L hL1 hL2 hnd => ?_⟩
    have hks : (ks.map (·.2)).Nodup := by
      rw [h2]
      refine List.Pairwise.map _ (fun x y hxy => ?_) nd
      intro z
      apply hxy
      injection z with z1 z2
      injection z2 with z2 _
      exact Prod.ext (by omega) (by omega)
    have : (L.map (·.2)).length = (ks.map (·.2)).length := nodup_len_of_mem hnd hks fun k => ⟨fun h => by
      obtain ⟨p, hp, rfl⟩ := List.mem_map.mp h
      exact List.mem_map.mpr ⟨p, hL1 p hp, rfl⟩, fun h => by
      obtain ⟨p, hp, rfl⟩ := List.mem_map.mp h
      exact hL2 p hp⟩
    rw [List.length_map, List.length_map, hlen] at this
    rw [this]
    exact q _ F2 H2 g2 rfl
/-! ### tuples of the written part -/
def KTup (K : PySem.W.Frag) (q : Addr) (ns : List Int) : Prop := ∃ (o : Obj) (its : Array Value) (n : Nat), K.lookup q = some o ∧ o.cls = .type "tuple" ∧ o.data = .seq its n ∧ its.size ≤ sizeLine ∧ Vals (ns.map V.int) its.toList
theorem ev_ixK {q : Addr} {ns : List Int} {i x : Int} (h : KTup K q ns) (hb : Ev rInt tb σ F H i) (hx : atI ns i = some x) : Ev rInt (tOp (rIxT K) (tC (.ref q)) tb) σ F H x := fun F1 H1 g1 Q k =>
  hb F1 H1 g1 _ fun w F3 H3 g3 r2 => by
    obtain ⟨y, hy, ry⟩ := atI_paired (paired_ints (H := F3) ns) hx
    exact ⟨q, _, i, y, rfl, r2, .inr h, hy, k y F3 H3 g3 ry⟩
/-- x in (a, b) -/
theorem ev_inPr {k a b : Nat} (hk : Ev rNat ta σ F H k) (ha : Ev (rTup rNat) tb σ F H [a, b]) : Ev rBl (tOp (rIn K false) ta tb) σ F H (decide (k = a) || decide (k = b)) := fun F1 H1 g1 Q q =>
  hk F1 H1 g1 _ fun v F2 H2 g2 r => ha F2 H2 (g1.trans g2) _ fun w F3 H3 g3 ⟨p, vs, e, hp, pr⟩ => by
    cases (show v = _ from r)
    have evs := nats_eq pr
    subst evs
    refine ⟨p, _, e, .inr (SqT.of (g3.fh _ _ hp)), rfl, rfl, ?_⟩
    have : inV (V.int (k : Int)) ([a, b].map fun n : Nat => V.int (n : Int)) = (decide (k = a) || decide (k = b)) := by
      have h1 : ∀ c : Nat, ((c : Int) == (k : Int)) = decide (k = c) := fun c => by
        by_cases h : k = c
        · rw [decide_eq_true h, h]; exact beq_self_eq_true _
        · rw [decide_eq_false h]; exact beq_eq_false_iff_ne.mpr (by omega)
      show (((a : Int) == (k : Int)) || (((b : Int) == (k : Int)) || false)) = _
      rw [h1, h1, Bool.or_false]
    show Q (.bl (inV (V.int (k : Int)) ([a, b].map fun n : Nat => V.int (n : Int)))) H3
    rw [this]
    exact q _ F3 H3 (g2.trans g3) rfl
theorem ev_intB {b : Bool} (ha : Ev rBl ta σ F H b) : Ev rInt (tCB (fun xs H Q => (∃ i, xs = [.int i] ∧ Q (.int i) H) ∨ ∃ k, xs = [.bl k] ∧ Q (.int (if k then 1 else 0)) H) (tCons ta tNil)) σ F H (if b then 1 else 0) := fun F1 H1 g1 Q q =>
  ha F1 H1 g1 _ fun v F2 H2 g2 r => .inr ⟨b, by rw [show v = _ from r], q _ F2 H2 g2 rfl⟩
end
/-! ### webs -/
structure Wb where
  spots : Nat
  ties : List (Nat × Nat)
  whole : Nat
  levels : List Nat
  h0 : 1 ≤ spots
  h1 : spots ≤ 5
  h2 : ∀ p ∈ ties, p.1 < p.2 ∧ p.2 < spots
  h3 : ties.Nodup
  h4 : 1 ≤ whole
  h5 : whole ≤ 40
  h6 : levels.length = spots
  h7 : ∀ l ∈ levels, l ≤ whole
def rWeb (C : Addr) : Rp Wb := fun H v W => ∃ a dx l m, v = .ref a ∧ H a = some (.ins C dx [("spots", .int (W.spots : Int)), ("ties", l), ("whole", .int (W.whole : Int)), ("levels", m)]) ∧ rLst (rPr rNat rNat) H l W.ties ∧ rLst rNat H m W.levels
instance {C : Addr} : Mn (rWeb C) := ⟨fun e ⟨a, dx, l, m, h1, h2, h3, h4⟩ => ⟨a, dx, l, m, h1, e _ _ h2, Mn.mono e h3, Mn.mono e h4⟩⟩
instance {C : Addr} : NotN (rWeb C) := ⟨fun ⟨_, _, _, _, h, _⟩ e => by rw [h] at e; cases e⟩
theorem fld_spots {K : PySem.W.Frag} {C : Addr} (c : Cls K C) (n : NoAttr K C "spots") : IsF (rWeb C) K "spots" rNat Wb.spots := ⟨fun ⟨a, dx, l, m, h1, h2, h3, h4⟩ => ⟨a, C, dx, _, _, h1, h2, c, n, rfl, rfl⟩⟩
theorem fld_ties {K : PySem.W.Frag} {C : Addr} (c : Cls K C) (n : NoAttr K C "ties") : IsF (rWeb C) K "ties" (rLst (rPr rNat rNat)) Wb.ties := ⟨fun ⟨a, dx, l, m, h1, h2, h3, h4⟩ => ⟨a, C, dx, _, _, h1, h2, c, n, rfl, h3⟩⟩
theorem fld_whole {K : PySem.W.Frag} {C : Addr} (c : Cls K C) (n : NoAttr K C "whole") : IsF (rWeb C) K "whole" rNat Wb.whole := ⟨fun ⟨a, dx, l, m, h1, h2, h3, h4⟩ => ⟨a, C, dx, _, _, h1, h2, c, n, rfl, rfl⟩⟩
theorem fld_levels {K : PySem.W.Frag} {C : Addr} (c : Cls K C) (n : NoAttr K C "levels") : IsF (rWeb C) K "levels" (rLst rNat) Wb.levels := ⟨fun ⟨a, dx, l, m, h1, h2, h3, h4⟩ => ⟨a, C, dx, _, _, h1, h2, c, n, rfl, h4⟩⟩
def SpWeb (C : Addr) : Sp := fun vs H Q _ => ∃ (F : Hp) (a dx : Addr) (l m : V) (W : Wb), vs = [.ref a, .int (W.spots : Int), l, .int (W.whole : Int), m] ∧ Ex F H ∧ F a = none ∧ H a = some (.ins C dx []) ∧ rLst (rPr rNat rNat) F l W.ties ∧ rLst rNat F m W.levels ∧
  ∀ F' H', Gr (M1 a) F H F' H' → rWeb C F' (.ref a) W → Q .non H'
instance {C : Addr} : SpLen (SpWeb C) 5 := ⟨fun ⟨_, _, _, _, _, _, h, _⟩ => by rw [h]; rfl⟩
theorem ev_Web {σ : St} {F H : Hp} {ta tb tc td : TE} {C : Addr} {W : Wb} {E : XK} (ha : Ev rInt ta σ F H (W.spots : Int)) (hb : Ev (rLst (rPr rNat rNat)) tb σ F H W.ties) (hc : Ev rInt tc σ F H (W.whole : Int)) (hd : Ev (rLst rNat) td σ F H W.levels) :
    Ev (rWeb C) (tMake C (SpWeb C) [] E (tCons ta (tCons tb (tCons tc (tCons td tNil))))) σ F H W := fun F1 H1 g1 Q q =>
  ha F1 H1 g1 _ fun v F2 H2 g2 r => hb F2 H2 (g1.trans g2) _ fun w F3 H3 g3 r3 => hc F3 H3 ((g1.trans g2).trans g3) _ fun u F4 H4 g4 r4 => hd F4 H4 (((g1.trans g2).trans g3).trans g4) _ fun z F5 H5 g5 r5 => fun x dx nx ndx nex => by
    cases (show v = _ from r)
    cases (show u = _ from r4)
    have e1 : Ex F5 (upd (upd H5 dx (.own x)) x (.ins C dx [])) := (g5.fh.mut (g5.fh.free ndx)).mut (g5.fh.free nx)
    exact ⟨F5, x, dx, w, z, W, rfl, e1, g5.fh.free nx, upd_same, Mn.mono (g4.ff.trans g5.ff) r3, r5, fun F' H' g k => ⟨rfl, q _ F' H' ((((g2.trans g3).trans g4).trans g5).trans (.made (M := M0) nx ndx nex.symm g)) k⟩⟩
end El

set_option Elab.async false
set_option linter.all false
set_option maxRecDepth 100000
set_option maxHeartbeats 4000000
namespace El
open PySem PySem.Spec L2
def upB (p s : Nat) : Bool := decide (p / 2 ^ s % 2 = 1)
def pairsM (n : Nat) : List (Nat × Nat) := ((List.range (2 ^ n)).map fun p => ((List.range n).filter fun s => !upB p s).map fun s => (p, p + 2 ^ s)).flatten
def hsM (n : Nat) : List (List Nat) := aboveM (2 ^ n) (pairsM n)
def subB (n x y : Nat) : Bool := (List.range n).all fun s => upB y s || !upB x s
def factsB (n : Nat) (hs : List (List Nat)) : Bool :=
  (leastM hs == some 0) && (greatestM hs == some (2 ^ n - 1)) && ((List.range (2 ^ n)).all fun x => !decide (x ∈ hs.getD x [])) && ((List.range (2 ^ n)).all fun x => (List.range (2 ^ n)).all fun y => atMostM hs x y == subB n x y)
def pairsB (n : Nat) : Bool := decide ((pairsM n).length ≤ 100) && (pairsM n).all fun p => decide (p.1 < 2 ^ n) && decide (p.2 < 2 ^ n) && !decide (p.1 = p.2)
def hs1 : List (List Nat) := [[1], []]
theorem hs1_eq : hsM 1 = hs1 := by decide +kernel
theorem facts1 : factsB 1 hs1 = true := by decide +kernel
theorem pairs1 : pairsB 1 = true := by decide +kernel
def hs2 : List (List Nat) := [[2, 3, 1], [3], [3], []]
theorem hs2_eq : hsM 2 = hs2 := by decide +kernel
theorem facts2 : factsB 2 hs2 = true := by decide +kernel
theorem pairs2 : pairsB 2 = true := by decide +kernel
def hs3 : List (List Nat) := [[4, 6, 7, 5, 2, 3, 1], [5, 7, 3], [6, 7, 3], [7], [6, 7, 5], [7], [7], []]
theorem hs3_eq : hsM 3 = hs3 := by decide +kernel
theorem facts3 : factsB 3 hs3 = true := by decide +kernel
theorem pairs3 : pairsB 3 = true := by decide +kernel
def hs4 : List (List Nat) := [[8, 12, 14, 15, 13, 10, 11, 9, 4, 6, 7, 5, 2, 3, 1], [9, 13, 15, 11, 5, 7, 3], [10, 14, 15, 11, 6, 7, 3], [11, 15, 7], [12, 14, 15, 13, 6, 7, 5], [13, 15, 7], [14, 15, 7], [15], [12, 14, 15, 13, 10, 11, 9], [13, 15, 11], [14, 15, 11], [15], [14, 15, 13], [15], [15], []]
theorem hs4_eq : hsM 4 = hs4 := by decide +kernel
theorem facts4 : factsB 4 hs4 = true := by decide +kernel
theorem pairs4 : pairsB 4 = true := by decide +kernel
def hs5 : List (List Nat) := [[16, 24, 28, 30, 31, 29, 26, 27, 25, 20, 22, 23, 21, 18, 19, 17, 8, 12, 14, 15, 13, 10, 11, 9, 4, 6, 7, 5, 2, 3, 1], [17, 25, 29, 31, 27, 21, 23, 19, 9, 13, 15, 11, 5, 7, 3], [18, 26, 30, 31, 27, 22, 23, 19, 10, 14, 15, 11, 6, 7, 3], [19, 27, 31, 23, 11, 15, 7], [20, 28, 30, 31, 29, 22, 23, 21, 12, 14, 15, 13, 6, 7, 5], [21, 29, 31, 23, 13, 15, 7], [22, 30, 31, 23, 14, 15, 7], [23, 31, 15], [24, 28, 30, 31, 29, 26, 27, 25, 12, 14, 15, 13, 10, 11, 9], [25, 29, 31, 27, 13, 15, 11], [26, 30, 31, 27, 14, 15, 11], [27, 31, 15], [28, 30, 31, 29, 14, 15, 13], [29, 31, 15], [30, 31, 15], [31], [24, 28, 30, 31, 29, 26, 27, 25, 20, 22, 23, 21, 18, 19, 17], [25, 29, 31, 27, 21, 23, 19], [26, 30, 31, 27, 22, 23, 19], [27, 31, 23], [28, 30, 31, 29, 22, 23, 21], [29, 31, 23], [30, 31, 23], [31], [28, 30, 31, 29, 26, 27, 25], [29, 31, 27], [30, 31, 27], [31], [30, 31, 29], [31], [31], []]
theorem hs5_eq : hsM 5 = hs5 := by decide +kernel
theorem facts5 : factsB 5 hs5 = true := by decide +kernel
theorem pairs5 : pairsB 5 = true := by decide +kernel
theorem facts {n : Nat} (h0 : 1 ≤ n) (h1 : n ≤ 5) : factsB n (hsM n) = true := by
  match n, h0, h1 with
  | 1, _, _ => rw [hs1_eq]; exact facts1
  | 2, _, _ => rw [hs2_eq]; exact facts2
  | 3, _, _ => rw [hs3_eq]; exact facts3
  | 4, _, _ => rw [hs4_eq]; exact facts4
  | 5, _, _ => rw [hs5_eq]; exact facts5
theorem pairs_ok {n : Nat} (h0 : 1 ≤ n) (h1 : n ≤ 5) : pairsB n = true := by
  match n, h0, h1 with
  | 1, _, _ => exact pairs1
  | 2, _, _ => exact pairs2
  | 3, _, _ => exact pairs3
  | 4, _, _ => exact pairs4
  | 5, _, _ => exact pairs5
theorem pow_le {n : Nat} (h1 : n ≤ 5) : 2 ^ n ≤ 32 := by
  have : 2 ^ n ≤ 2 ^ 5 := Nat.pow_le_pow_right (by decide) h1
  exact this
theorem hs_least {n : Nat} (h0 : 1 ≤ n) (h1 : n ≤ 5) : leastM (hsM n) = some 0 := by
  have := facts h0 h1
  unfold factsB at this
  simp only [Bool.and_eq_true, beq_iff_eq] at this
  exact this.1.1.1
theorem hs_greatest {n : Nat} (h0 : 1 ≤ n) (h1 : n ≤ 5) : greatestM (hsM n) = some (2 ^ n - 1) := by
  have := facts h0 h1
  unfold factsB at this
  simp only [Bool.and_eq_true, beq_iff_eq] at this
  exact this.1.1.2
theorem hs_irr {n : Nat} (h0 : 1 ≤ n) (h1 : n ≤ 5) : ∀ x, x < 2 ^ n → x ∉ (hsM n).getD x [] := fun x hx hm => by
  have := facts h0 h1
  unfold factsB at this
  simp only [Bool.and_eq_true] at this
  have h2 := List.all_eq_true.mp this.1.2 x (List.mem_range.mpr hx)
  rw [decide_eq_true hm] at h2
  cases h2
theorem hs_sub {n : Nat} (h0 : 1 ≤ n) (h1 : n ≤ 5) {x y : Nat} (hx : x < 2 ^ n) (hy : y < 2 ^ n) : atMostM (hsM n) x y = subB n x y := by
  have := facts h0 h1
  unfold factsB at this
  simp only [Bool.and_eq_true] at this
  have h2 := List.all_eq_true.mp this.2 x (List.mem_range.mpr hx)
  have h3 := List.all_eq_true.mp h2 y (List.mem_range.mpr hy)
  exact beq_iff_eq.mp h3
theorem good_pairs {n : Nat} (h0 : 1 ≤ n) (h1 : n ≤ 5) : GoodO (2 ^ n) (pairsM n) := by
  have hp := pairs_ok h0 h1
  unfold pairsB at hp
  rw [Bool.and_eq_true] at hp
  refine ⟨Nat.one_le_two_pow, pow_le h1, of_decide_eq_true hp.1, fun p h => ?_, hs_irr h0 h1⟩
  have := List.all_eq_true.mp hp.2 p h
  simp only [Bool.and_eq_true, Bool.not_eq_true', decide_eq_true_eq, decide_eq_false_iff_not] at this
  exact ⟨this.1.1, this.1.2, this.2⟩
/-! ### moving -/
def tiedM (ties : List (Nat × Nat)) (s : Nat) : List Nat := (ties.filter fun x => decide (s = x.1) || decide (s = x.2)).map fun x => x.1 + x.2 - s
def countM (ties : List (Nat × Nat)) (p s : Nat) : Nat := ((tiedM ties s).filter fun y => upB p y).length
def standB (W : Wb) (p s k : Nat) : Bool := decide (k < W.levels.getD (countM W.ties p s) 0)
def movedM (W : Wb) (p s k : Nat) : Nat := p + (if standB W p s k then 2 ^ s else 0) - (if upB p s then 2 ^ s else 0)
theorem up_le {p s : Nat} (h : upB p s = true) : 2 ^ s ≤ p := by
  have h1 : p / 2 ^ s % 2 = 1 := of_decide_eq_true h
  have h2 : 1 ≤ p / 2 ^ s := by
    rcases Nat.eq_zero_or_pos (p / 2 ^ s) with h | h
    · rw [h] at h1; cases h1
    · exact h
  have h3 := (Nat.le_div_iff_mul_le (Nat.two_pow_pos s)).mp h2
  omega
theorem moved_int {W : Wb} {p s k : Nat} : (p : Int) + ((if standB W p s k then 1 else 0) - (if upB p s then 1 else 0)) * ((2 ^ s : Nat) : Int) = (movedM W p s k : Int) := by
  unfold movedM
  have hu := fun h : upB p s = true => up_le h
  revert hu
  generalize 2 ^ s = q
  intro hu
  cases h1 : standB W p s k <;> cases h2 : upB p s
  · simp
  · have := hu h2
    simp only [Bool.false_eq_true, if_false, if_true]
    omega
  · simp
  · have := hu h2
    simp only [if_true]
    omega
theorem add_lt : ((List.range 6).all fun n => (List.range n).all fun s => (List.range (2 ^ n)).all fun p => upB p s || decide (p + 2 ^ s < 2 ^ n)) = true := by decide +kernel
theorem moved_lt {W : Wb} {p s k : Nat} (hp : p < 2 ^ W.spots) (hs : s < W.spots) : movedM W p s k < 2 ^ W.spots := by
  have h1 := W.h1
  have h := List.all_eq_true.mp (List.all_eq_true.mp (List.all_eq_true.mp add_lt W.spots (List.mem_range.mpr (by omega))) s (List.mem_range.mpr hs)) p (List.mem_range.mpr hp)
  unfold movedM
  have hu := fun h : upB p s = true => up_le h
  have hq : upB p s = false → p + 2 ^ s < 2 ^ W.spots := fun h2 => by
    rw [h2] at h
    exact of_decide_eq_true h
  revert hu hq hp
  generalize 2 ^ s = q
  generalize 2 ^ W.spots = N
  intro hp hu hq
  cases h1 : standB W p s k <;> cases h2 : upB p s
  · simpa using hp
  · simp only [Bool.false_eq_true, if_false, if_true]
    omega
  · simpa using hq h2
  · simp only [if_true]
    omega
theorem tied_mem {W : Wb} {s y : Nat} (h : y ∈ tiedM W.ties s) : y < W.spots ∧ y ≠ s := by
  unfold tiedM at h
  obtain ⟨x, hx, rfl⟩ := List.mem_map.mp h
  obtain ⟨h1, h2⟩ := List.mem_filter.mp hx
  obtain ⟨h3, h4⟩ := W.h2 x h1
  rw [Bool.or_eq_true, decide_eq_true_eq, decide_eq_true_eq] at h2
  omega
theorem tied_nodup {W : Wb} {s : Nat} : (tiedM W.ties s).Nodup := by
  unfold tiedM
  have nd : (W.ties.filter fun x => decide (s = x.1) || decide (s = x.2)).Nodup := W.h3.filter _
  have hm : ∀ x ∈ (W.ties.filter fun x => decide (s = x.1) || decide (s = x.2)), (s = x.1 ∨ s = x.2) ∧ x.1 < x.2 := fun x hx => by
    obtain ⟨h1, h2⟩ := List.mem_filter.mp hx
    rw [Bool.or_eq_true, decide_eq_true_eq, decide_eq_true_eq] at h2
    exact ⟨h2, (W.h2 x h1).1⟩
  revert nd hm
  generalize (W.ties.filter fun x => decide (s = x.1) || decide (s = x.2)) = l
  intro nd hm
  rw [List.Nodup, List.pairwise_map]
  refine List.Pairwise.imp_of_mem (fun {x y} hx hy hne => ?_) nd
  intro z
  apply hne
  obtain ⟨a1, a2⟩ := hm x hx
  obtain ⟨b1, b2⟩ := hm y hy
  exact Prod.ext (by omega) (by omega)
theorem tied_len {W : Wb} {s : Nat} (hs : s < W.spots) : (tiedM W.ties s).length < W.spots := by
  have nd : (s :: tiedM W.ties s).Nodup := List.nodup_cons.mpr ⟨fun h => (tied_mem h).2 rfl, tied_nodup⟩
  have := nodup_lt nd fun y hy => by
    rcases List.mem_cons.mp hy with rfl | h
    · exact hs
    · exact (tied_mem h).1
  rw [List.length_cons] at this
  omega
theorem count_lt {W : Wb} {p s : Nat} (hs : s < W.spots) : countM W.ties p s < W.spots := by
  unfold countM
  have := List.length_filter_le (fun y => upB p y) (tiedM W.ties s)
  have := tied_len hs
  omega
def turnsML (W : Wb) : List (List Nat) := ((List.range W.spots).map fun s => (List.range W.whole).map fun k => (List.range (2 ^ W.spots)).map fun p => movedM W p s k).flatten
theorem flat_const {α : Type} {c : Nat} : ∀ {ls : List (List α)}, (∀ l ∈ ls, l.length = c) → ls.flatten.length = ls.length * c
  | [], _ => by simp
  | l :: ls, h => by
    rw [List.flatten_cons, List.length_append, flat_const fun m hm => h m (List.mem_cons_of_mem _ hm), h l List.mem_cons_self, List.length_cons, Nat.succ_mul]
    omega
theorem turns_len {W : Wb} : (turnsML W).length = W.spots * W.whole := by
  unfold turnsML
  rw [flat_const (c := W.whole) fun l hl => by obtain ⟨s, _, rfl⟩ := List.mem_map.mp hl; rw [List.length_map, List.length_range], List.length_map, List.length_range]
def turnsM (W : Wb) : Tn where
  many := 2 ^ W.spots
  maps := turnsML W
  h0 := Nat.one_le_two_pow
  h1 := pow_le W.h1
  h2 := by rw [turns_len]; exact Nat.mul_pos W.h0 W.h4
  h3 := by rw [turns_len]; exact Nat.mul_le_mul W.h1 W.h5
  h4 := fun m hm => by
    obtain ⟨l, hl, hm⟩ := List.mem_flatten.mp hm
    obtain ⟨s, hs, rfl⟩ := List.mem_map.mp hl
    obtain ⟨k, hk, rfl⟩ := List.mem_map.mp hm
    refine ⟨by rw [List.length_map, List.length_range], fun x hx => ?_⟩
    obtain ⟨p, hp, rfl⟩ := List.mem_map.mp hx
    exact moved_lt (List.mem_range.mp hp) (List.mem_range.mp hs)
theorem ties_len (W : Wb) : W.ties.length ≤ 25 := by
  have h1 := W.h1
  have nd : (W.ties.map fun p => p.1 * 5 + p.2).Nodup := by
    rw [List.Nodup, List.pairwise_map]
    refine List.Pairwise.imp_of_mem (fun {x y} hx hy hne => ?_) W.h3
    intro z
    apply hne
    have a := W.h2 x hx
    have b := W.h2 y hy
    exact Prod.ext (by omega) (by omega)
  have := nodup_lt (n := 25) nd fun y hy => by
    obtain ⟨p, hp, rfl⟩ := List.mem_map.mp hy
    have := W.h2 p hp
    omega
  rw [List.length_map] at this
  exact this
theorem worth {s : Nat} (h : s < 6) : atI ([1, 2, 4, 8, 16, 32] : List Int) (s : Int) = some ((2 ^ s : Nat) : Int) := by
  match s, h with
  | 0, _ => rfl
  | 1, _ => rfl
  | 2, _ => rfl
  | 3, _ => rfl
  | 4, _ => rfl
  | 5, _ => rfl
end El

set_option Elab.async false
set_option linter.all false
set_option maxRecDepth 100000
set_option maxHeartbeats 4000000
namespace El
open PySem PySem.Spec PySem.W L2
section
variable {prog : Program} {w : World} {A : Around} {E : Value → Shared → Prop} {s : Shared} {K : Frag} {x C L f : Addr} {h₀ : Heap} {m : Str → Option Value} {ox : Obj} {od : Option Obj} {b : Value}
/-- object.__ne__ of an instance whose class has its own __eq__ -/
theorem objNe_K (X : K.In s.heap) (I : InstAt s.heap x ox C od) (hs : findIn K (.ref C) "__eq__" = some (some (.ref f))) (hf : isFn K (.ref f) = true) (hu : A.units < cLine) {Q : Fin → Shared → Prop}
    (hcall : wpAny (model prog w) A (call (.ref f) [.ref x, b]) (fun v s' => ∃ c, v = .bool c ∧ Q (.done (.ret (.bool (!c)))) s') E s) : wpAny (model prog w) A (Builtin.«object.__ne__» ⟨[.ref x, b], []⟩) Q E s := by
  unfold Builtin.«object.__ne__»
  obtain ⟨hp, g, d, t, os⟩ := s
  repeat (first
    | with_reducible refine wpAny_cRoomFor hu ?_
    | (refine wpAny_bind (m := callSpecialIfBound? (.ref x) (Str.ofString "__eq__") [b])
        (ifBound_K X I hs hf (wpAny_mono hcall (fun v s' hr => by
          obtain ⟨c, rfl, hq⟩ := hr
          repeat (first | exact hq | exact wpAny_pure hq | exact wpAny_truthy_bool hq | (refine wpAny_bind (m := truthy (.bool _)) (wpAny_truthy_bool ?_)) | wp_step)) fun _ _ e => e)))
    | wp_step)
theorem tryNe_K (X : K.In s.heap) (I : InstAt s.heap x ox C od) (hne : findIn K (.ref C) "__ne__" = some (some (.builtin "object.__ne__"))) (hm : mroIn K C (.type "object") = some true)
    (hs : findIn K (.ref C) "__eq__" = some (some (.ref f))) (hf : isFn K (.ref f) = true) (hu : A.in1.units < cLine) {Q : Option Value → Shared → Prop}
    (hcall : wpAny (model prog w) A.in1 (call (.ref f) [.ref x, b]) (fun v s' => ∃ c, v = .bool c ∧ Q (some (.bool (!c))) s') E s) : wpAny (model prog w) A (tryCompare (.ref x) "__ne__" b) Q E s := by
  have FB := PySem.F.cmp_object
  have sub : Looks (model prog w) s.heap (isInstance (.ref x) (.type "object")) true := I.type.andThen (looks_mroIn X hm)
  have one : wpAny (model prog w) A (call (.builtin "object.__ne__") [.ref x, b]) (fun v s' => ∃ c, v = .bool c ∧ Q (some (.bool c)) s') E s :=
    wpAny_call (codeAny_call_builtin FB.ne.plain PySem.F.cmpEntry_ne (@check_slot (model prog w) _ _ s "object.__ne__" "object" "__ne__" (.ref x) [b] [] _ PySem.F.cmpKind_ne PySem.F.cmpSplit_ne sub (PySem.F.cmpArgs_ne (.ref x) b)
      (objNe_K X I hs hf hu (wpAny_mono hcall (fun v s' hv => by
        obtain ⟨c, rfl, hq⟩ := hv
        exact ⟨c, rfl, ⟨!c, rfl, hq⟩⟩) fun _ _ e => e))))
  unfold tryCompare
  refine wpAny_bind ?_
  simp only [callSpecialIfBound?, bindSpecialIfBound?]
  refine wpAny_holding (wpAny_bind (wpAny_bind (wpAny_bind (I.type.here ((looks_findIn X hne).here ?_)))))
  simp only [FB.ne.bind]
  refine wpAny_bind (wpAny_askSetting (wpAny_ite ?_))
  have fin : wpAny (model prog w) A (call (.builtin "object.__ne__") ([.ref x] ++ [b]) >>= fun v => pure (some v)) (fun v s' => ∃ c, v = some (.bool c) ∧ Q (some (.bool c)) s') E s :=
    wpAny_bind (wpAny_mono one (fun v s' h' => by obtain ⟨c, rfl, hq⟩ := h'; exact wpAny_pure ⟨c, rfl, hq⟩) fun _ _ h' => h')
  have back : ∀ (v : Option Value) s', (∃ c, v = some (Value.bool c) ∧ Q (some (.bool c)) s') → wpAny (model prog w) A (match v with | some .notImplemented => pure none | v => pure v) Q E s' := fun v s' ⟨c, e, hq⟩ => by
    subst e
    exact wpAny_pure hq
  split
  · exact wpAny_bind (wpAny_pure (wpAny_pure (wpAny_mono fin (fun v s' h' => by obtain ⟨c, rfl, hq⟩ := h'; exact wpAny_pure hq) fun _ _ e => e)))
  · exact wpAny_tryCatch (wpAny_bind (wpAny_pure (wpAny_pure (wpAny_mono fin (fun v s' h' => by obtain ⟨c, rfl, hq⟩ := h'; exact wpAny_pure hq) fun _ _ e => e))))
theorem richNe_K (F : PyProof.Rows.Fr h₀ L s.heap m) (X₀ : K.In h₀) (I : InstAt s.heap x ox C od) (hb : Looks (model prog w) s.heap (typeOf b) (.ref C)) (hne : findIn K (.ref C) "__ne__" = some (some (.builtin "object.__ne__"))) (hm : mroIn K C (.type "object") = some true)
    (hs : findIn K (.ref C) "__eq__" = some (some (.ref f))) (hf : isFn K (.ref f) = true) (hu : A.units < cLine) (hu1 : A.in1.units < cLine) {Q : Value → Shared → Prop}
    (hcall : wpAny (model prog w) A.in1 (call (.ref f) [.ref x, b]) (fun v s' => ∃ c, v = .bool c ∧ Q (.bool (!c)) s') E s) : wpAny (model prog w) A (richCompare .NotEq (.ref x) b) Q E s := by
  have X := X₀.keeps F.keep
  have one : wpAny (model prog w) A (tryCompare (.ref x) "__ne__" b) (fun r s' => ∃ v, r = some v ∧ Q v s') E s := tryNe_K X I hne hm hs hf hu1 (wpAny_mono hcall (fun v s' hv => by
    obtain ⟨c, rfl, hq⟩ := hv
    exact ⟨c, rfl, _, rfl, hq⟩) fun _ _ e => e)
  unfold richCompare
  simp only [oneThing_ref]
  refine wpAny_holding (wpAny_bind (wpAny_cRoomFor hu ?_))
  rw [cmpInfo_NotEq]
  dsimp only
  refine wpAny_bind (I.type.here (wpAny_bind (hb.here ?_)))
  rw [show (Value.ref C != Value.ref C) = false from by simp]
  simp only [Bool.false_eq_true, if_false]
  refine wpAny_bind (wpAny_pure ?_)
  simp only [Bool.false_eq_true, if_false]
  refine wpAny_bind (wpAny_mono one (fun r s' z => ?_) fun _ _ e => e)
  obtain ⟨v, rfl, hq⟩ := z
  exact wpAny_pure hq
end
/-- x != y, by the class's own ==, which says they are equal -/
def rNeG (D : Eqv) : R2 := fun x y H Q => D x y H ∧ ∀ H', Ext H H' → Q (.bl false) H'
theorem op_neG {X : Cx} {CX : CXT} {n : Nat} {C f : Addr} {fd : FuncData} {ps : List Str} {R : Addr → Addr → Hp → Prop} {E : XK} (F : FnOk X.prog X.w X.K X.mg X.base CX n f fd ps (spEq R))
    (hs : findIn X.K (.ref C) "__eq__" = some (some (.ref f))) (hf : isFn X.K (.ref f) = true) (hne : findIn X.K (.ref C) "__ne__" = some (some (.builtin "object.__ne__"))) (hm : mroIn X.K C (.type "object") = some true) (hb : Binds X.K fd ps []) (hx : Passes CX X E) (hr : Room (n + 1) X.A) : OpR X (compareOp .NotEq) (rNeG (DIns C R)) := by
  intro pins s σ H x y v u Q I rx ry hq
  obtain ⟨d, q⟩ := hq
  show wpAny (model X.prog X.w) X.A (richCompare .NotEq v u) (EP X pins σ Q) X.xe s
  obtain ⟨a, b, dx, dy, fs, gs, rfl, rfl, ha, hb', hr'⟩ := d
  cases rx
  cases ry
  obtain ⟨mA, J, _⟩ := ins_get I.hok ha
  obtain ⟨mB, J', _⟩ := ins_get I.hok hb'
  obtain ⟨od, J, _⟩ := J.look
  obtain ⟨od', J', _⟩ := J'.look
  obtain ⟨m, hF⟩ := I.fr
  have hu1 := hr.in1.units
  have hu2 := hr.units
  refine richNe_K hF I.ok.mod.kin J J'.type hne hm hs hf (by omega) (by omega) ?_
  have hsp : spEq R [.ref a, .ref b] H (fun v H' => v = .bl true ∧ Ext H H') E := ⟨a, b, rfl, hr', fun H' e => ⟨rfl, e⟩⟩
  have e0 : Env0 X.prog X.w X.K X.mg X.base X.A.in1 X.stack s H := by
    have e := I.env0
    exact ⟨e.frames, e.mod, e.bs, e.bsz, e.funs, e.frf, e.hok, e.bare⟩
  have hl := F.len _ _ _ _ hsp
  have r2 : Vals [V.ref a, V.ref b] [Value.ref a, Value.ref b] := .cons rfl (.cons rfl .nil)
  refine wpAny_call (codeAny_mono (F.run X.A.in1 X.stack s H ⟨[.ref a, .ref b], []⟩ [.ref a, .ref b] [.ref a, .ref b] _ E hr.in1 e0 (by
    have := hb s [.ref a, .ref b] I.kIn (by simpa using hl)
    simpa using this) r2 hsp) fun r s' hq => ?_)
  cases r with
  | error e => exact hx pins σ H s e s' I hq
  | ok fl =>
    cases fl with
    | ret w =>
      obtain ⟨z, H', I', rz, ez, ex⟩ := I.after hq
      subst ez
      cases rz
      exact ⟨true, rfl, .bl false, H', I', rfl, q H' ex⟩
    | next => exact False.elim hq
    | brk => exact False.elim hq
    | cont => exact False.elim hq
theorem ev_neTurns {σ : St} {F H : Hp} {ta tb : TE} {C : Addr} {t : Tn} (ha : Ev (rTurns C) ta σ F H t) (hb : Ev (rTurns C) tb σ F H t) : Ev rBl (tOp (rNeG (DIns C (REq C))) ta tb) σ F H false := fun F1 H1 g1 Q q =>
  ha F1 H1 g1 _ fun v F2 H2 g2 r => hb F2 H2 (g1.trans g2) _ fun w F3 H3 g3 r2 => by
    have r' := Mn.mono g3.ff r
    have r3 := r'
    have r4 := r2
    obtain ⟨a, dx, l, rfl, h1, h2⟩ := r3
    obtain ⟨b, dy, l', rfl, h3, h4⟩ := r4
    exact ⟨⟨a, b, dx, dy, _, _, rfl, rfl, g3.fh _ _ h1, g3.fh _ _ h3, F3, t, g3.fh, r', r2⟩, fun H' x => q _ F3 H' ((g2.trans g3).trans (.ext g3.fh x)) rfl⟩
end El

set_option Elab.async false
set_option linter.all false
set_option maxRecDepth 100000
set_option maxHeartbeats 4000000
namespace El
open PySem PySem.Spec L2
/-! ### tuples of four -/
def r4 {α β γ δ : Type} (R : Rp α) (S : Rp β) (T : Rp γ) (U : Rp δ) : Rp (α × β × γ × δ) := fun H v p => ∃ a x y z u, v = .ref a ∧ H a = some (.tup [x, y, z, u]) ∧ R H x p.1 ∧ S H y p.2.1 ∧ T H z p.2.2.1 ∧ U H u p.2.2.2
instance {α β γ δ : Type} {R : Rp α} {S : Rp β} {T : Rp γ} {U : Rp δ} [m : Mn R] [n : Mn S] [o : Mn T] [q : Mn U] : Mn (r4 R S T U) := ⟨fun e ⟨a, x, y, z, u, h1, h2, h3, h4, h5, h6⟩ => ⟨a, x, y, z, u, h1, e _ _ h2, m.mono e h3, n.mono e h4, o.mono e h5, q.mono e h6⟩⟩
instance {α β γ δ : Type} {R : Rp α} {S : Rp β} {T : Rp γ} {U : Rp δ} [d1 : Dt R] [d2 : Dt S] [d3 : Dt T] [d4 : Dt U] : Dt (r4 R S T U) where
  data := fun p => .tuple [d1.data p.1, d2.data p.2.1, d3.data p.2.2.1, d4.data p.2.2.2]
  rep := fun e ⟨a, x, y, z, u, h1, h2, h3, h4, h5, h6⟩ => by
    subst h1
    exact .tup (SqT.of (e _ _ h2)) (.cons (d1.rep e h3) (.cons (d2.rep e h4) (.cons (d3.rep e h5) (.cons (d4.rep e h6) .nil))))
  lay := fun p => by
    show (PyData.canLay0 (d1.data p.1) && (PyData.canLay0 (d2.data p.2.1) && (PyData.canLay0 (d3.data p.2.2.1) && (PyData.canLay0 (d4.data p.2.2.2) && true)))) = true
    rw [d1.lay, d2.lay, d3.lay, d4.lay]
    rfl
  dep := 1 + max d1.dep (max d2.dep (max d3.dep d4.dep))
  depth := fun p => by
    have h1 := d1.depth p.1
    have h2 := d2.depth p.2.1
    have h3 := d3.depth p.2.2.1
    have h4 := d4.depth p.2.2.2
    show max (PyData.depth (d1.data p.1)) (max (PyData.depth (d2.data p.2.1)) (max (PyData.depth (d3.data p.2.2.1)) (max (PyData.depth (d4.data p.2.2.2)) 0))) + 1 ≤ _
    omega
  eqv := fun x y => by
    show (PyData.eqv (d1.data x.1) (d1.data y.1) && (PyData.eqv (d2.data x.2.1) (d2.data y.2.1) && (PyData.eqv (d3.data x.2.2.1) (d3.data y.2.2.1) && (PyData.eqv (d4.data x.2.2.2) (d4.data y.2.2.2) && true)))) = true ↔ _
    rw [Bool.and_eq_true, Bool.and_eq_true, Bool.and_eq_true, Bool.and_true, d1.eqv, d2.eqv, d3.eqv, d4.eqv]
    obtain ⟨a, b, c, d⟩ := x
    obtain ⟨a', b', c', d'⟩ := y
    simp
theorem Paired.erase {α β : Type} {F : α → β → Prop} : ∀ {as : List α} {bs : List β} (n : Nat), Paired F as bs → Paired F (as.eraseIdx n) (bs.eraseIdx n)
  | _, _, _, .nil => .nil
  | _, _, 0, .cons _ t => t
  | _, _, n + 1, .cons r t => .cons r (Paired.erase n t)
theorem erase_perm {α : Type} : ∀ {l : List α} {i : Nat} {x : α}, l[i]? = some x → (x :: l.eraseIdx i).Perm l
  | [], i, x, h => by simp at h
  | a :: l, 0, x, h => by simp at h; subst h; exact .refl _
  | a :: l, i + 1, x, h => (List.Perm.swap a x _).trans (.cons a (erase_perm (by simpa using h)))
theorem seqIx {d len : Nat} (h : d < len) : seqIndex? (d : Int) len = some d := by
  unfold seqIndex?
  simp
  omega
def Sp5 {α β γ δ ε ζ : Type} (R : Rp α) (S : Rp β) (T : Rp γ) (U : Rp δ) (X : Rp ζ) (Pre : α → β → γ → δ → ζ → Prop) (W : Rp ε) (f : α → β → γ → δ → ζ → ε) : Sp := fun vs H Q _ => ∃ F v w u u' u'' x y z z' z'', vs = [v, w, u, u', u''] ∧ Ex F H ∧ R F v x ∧ S F w y ∧ T F u z ∧ U F u' z' ∧ X F u'' z'' ∧ Pre x y z z' z'' ∧ ∀ r F' H', Gr M0 F H F' H' → W F' r (f x y z z' z'') → Q r H'
instance {α β γ δ ε ζ : Type} {R : Rp α} {S : Rp β} {T : Rp γ} {U : Rp δ} {X : Rp ζ} {W : Rp ε} {p : α → β → γ → δ → ζ → Prop} {f : α → β → γ → δ → ζ → ε} : SpLen (Sp5 R S T U X p W f) 5 := ⟨fun ⟨_, _, _, _, _, _, _, _, _, _, _, h, _⟩ => by rw [h]; rfl⟩
section
variable {K : PySem.W.Frag} {σ : St} {F H F' H' : Hp} {ta tb tc td te tl tx : TE} {tt : TT} {α β γ δ ε ζ : Type} {R : Rp α} {S : Rp β} {T : Rp γ} {U : Rp δ} {X : Rp ζ} {W : Rp ε} {x : α} {y : β} {z : γ} {u : δ} {o : ζ} {xs : List α} {ys : List β} {a : Addr} {c N : Nat} {D : Ends} {ts : TS} {E : XK}
theorem ev_call5 {Pre : α → β → γ → δ → ζ → Prop} {f : α → β → γ → δ → ζ → ε} (ha : Ev R ta σ F H x) (hb : Ev S tb σ F H y) (hc : Ev T tc σ F H z) (hd : Ev U td σ F H u) (hx : Ev X tx σ F H o) (p : Pre x y z u o) (m : Mn R := by infer_instance) (n : Mn S := by infer_instance) (m2 : Mn T := by infer_instance) (m3 : Mn U := by infer_instance) :
    Ev W (tCall (Sp5 R S T U X Pre W f) [] E (tCons ta (tCons tb (tCons tc (tCons td (tCons tx tNil)))))) σ F H (f x y z u o) := fun F1 H1 g1 Q q =>
  ha F1 H1 g1 _ fun v F2 H2 g2 r1 => hb F2 H2 (g1.trans g2) _ fun w F3 H3 g3 r2 => hc F3 H3 ((g1.trans g2).trans g3) _ fun v3 F4 H4 g4 r3 => hd F4 H4 (((g1.trans g2).trans g3).trans g4) _ fun v4 F5 H5 g5 r4 => hx F5 H5 ((((g1.trans g2).trans g3).trans g4).trans g5) _ fun v5 F6 H6 g6 r5 =>
    ⟨F6, v, w, v3, v4, v5, x, y, z, u, o, rfl, g6.fh, m.mono (g3.ff.trans (g4.ff.trans (g5.ff.trans g6.ff))) r1, n.mono (g4.ff.trans (g5.ff.trans g6.ff)) r2, m2.mono (g5.ff.trans g6.ff) r3, m3.mono g6.ff r4, r5, p, fun r F' H' g k => q r F' H' (g2.trans (g3.trans (g4.trans (g5.trans (g6.trans g))))) k⟩
/-- a tuple of four, as an expression -/
theorem ev_r4 (ha : Ev R ta σ F H x) (hb : Ev S tb σ F H y) (hc : Ev T tc σ F H z) (hd : Ev U td σ F H u) (m : Mn R := by infer_instance) (n : Mn S := by infer_instance) (m2 : Mn T := by infer_instance) (m3 : Mn U := by infer_instance) :
    Ev (r4 R S T U) (tTup (tCons ta (tCons tb (tCons tc (tCons td tNil))))) σ F H (x, y, z, u) := fun F1 H1 g1 Q q =>
  ha F1 H1 g1 _ fun v F2 H2 g2 r1 => hb F2 H2 (g1.trans g2) _ fun w F3 H3 g3 r2 => hc F3 H3 ((g1.trans g2).trans g3) _ fun v3 F4 H4 g4 r3 => hd F4 H4 (((g1.trans g2).trans g3).trans g4) _ fun v4 F5 H5 g5 r4 =>
    ⟨by show 4 ≤ sizeLine; decide, fun B hB => by
      have g6 : Gr M0 F5 H5 (upd F5 B (.tup [v, w, v3, v4])) (upd H5 B (.tup [v, w, v3, v4])) := .new g5.fh hB
      exact q _ _ _ (g2.trans (g3.trans (g4.trans (g5.trans g6)))) ⟨B, v, w, v3, v4, rfl, upd_same, m.mono (g3.ff.trans (g4.ff.trans (g5.ff.trans g6.ff))) r1, n.mono (g4.ff.trans (g5.ff.trans g6.ff)) r2, m2.mono (g5.ff.trans g6.ff) r3, m3.mono g6.ff r4⟩⟩
theorem es_r4 {P1 : α → Prop} {P2 : β → Prop} {P3 : γ → Prop} {P4 : δ → Prop} {c1 c2 c3 c4 : Nat} (ha : EvS a c1 R ta σ F H P1) (hb : EvS a c2 S tb σ F H P2) (hc : EvS a c3 T tc σ F H P3) (hd : EvS a c4 U td σ F H P4) (m : Mn R := by infer_instance) (n : Mn S := by infer_instance) (m2 : Mn T := by infer_instance) (m3 : Mn U := by infer_instance) :
    EvS a (c1 + c2 + c3 + c4) (r4 R S T U) (tTup (tCons ta (tCons tb (tCons tc (tCons td tNil))))) σ F H (fun p => P1 p.1 ∧ P2 p.2.1 ∧ P3 p.2.2.1 ∧ P4 p.2.2.2) := fun F1 H1 N g fa s Q q =>
  ha F1 H1 (N + c4 + c3 + c2) g fa (s.le (by omega)) _ fun v x F2 H2 g2 fa2 s2 p1 r1 => hb F2 H2 (N + c4 + c3) (g.trans g2) fa2 s2 _ fun w y F3 H3 g3 fa3 s3 p2 r2 => hc F3 H3 (N + c4) ((g.trans g2).trans g3) fa3 s3 _ fun v3 z F4 H4 g4 fa4 s4 p3 r3 => hd F4 H4 N (((g.trans g2).trans g3).trans g4) fa4 s4 _ fun v4 u F5 H5 g5 fa5 s5 p4 r4 =>
    ⟨by show 4 ≤ sizeLine; decide, fun B hB => by
      have g6 : Gr M0 F5 H5 (upd F5 B (.tup [v, w, v3, v4])) (upd H5 B (.tup [v, w, v3, v4])) := .new g5.fh hB
      obtain ⟨o, ho⟩ := s5.someO
      exact q _ (x, y, z, u) _ _ (g2.trans (g3.trans (g4.trans (g5.trans g6.up)))) (g6.nn ho fa5) (s5.gr g6) ⟨p1, p2, p3, p4⟩ ⟨B, v, w, v3, v4, rfl, upd_same, m.mono (g3.ff.trans (g4.ff.trans (g5.ff.trans g6.ff))) r1, n.mono (g4.ff.trans (g5.ff.trans g6.ff)) r2, m2.mono (g5.ff.trans g6.ff) r3, m3.mono g6.ff r4⟩⟩
/-- x, y, z, u = e, e a tuple of four -/
theorem x_quadS {i j k l : Nat} {P : α × β × γ × δ → Prop} (h : EvS a c (r4 R S T U) te σ F H P) (e : Ex F H) (fa : F a = none) (s : Src H a N) (hc : c ≤ N)
    (kk : ∀ v w v3 v4 x F' H', Gr (M1 a) F H F' H' → F' a = none → Src H' a (N - c) → P x → R F' v x.1 → S F' w x.2.1 → T F' v3 x.2.2.1 → U F' v4 x.2.2.2 → D.nx ((((σ.set i (some v)).set j (some w)).set k (some v3)).set l (some v4)) H') : tAsg te (gTup K 4 (gCons (gName i) (gCons (gName j) (gCons (gName k) (gCons (gName l) gNil))))) D σ H :=
  h F H (N - c) (.refl e) fa (s.le (by omega)) _ fun v x F' H' g fa' s' p ⟨b, u1, u2, u3, u4, eb, hb, r1, r2, r3, r4⟩ => by
    subst eb
    exact ⟨b, [u1, u2, u3, u4], rfl, SqT.of (g.fh _ _ hb), rfl, u1, [u2, u3, u4], rfl, u2, [u3, u4], rfl, u3, [u4], rfl, u4, [], rfl, rfl, kk u1 u2 u3 u4 x F' H' g fa' s' p r1 r2 r3 r4⟩
/-- xs.extend(e), e a draw -/
theorem x_extS {l : Addr} {i : Nat} {P : List α → Prop} {vs : List V} (hne : l ≠ a) (h : EvS a c (rLst R) te σ F H P) (e : Ex F H) (fa : F a = none) (s : Src H a N) (hc : c ≤ N) (hv : σ[i]? = some (some (.ref l))) (hl : H l = some (.lst vs)) (hz : ∀ zs, P zs → vs.length + zs.length ≤ sizeLine)
    (k : ∀ ws zs F' H', Gr (M1 a) F H F' H' → F' a = none → Src H' a (N - c) → P zs → Paired (R F') ws zs → H' l = some (.lst vs) → D.nx σ (upd H' l (.lst (vs ++ ws)))) : tDrop (tBM K "list" rExtend (tVar i) (tCons te tNil)) D σ H :=
  ⟨.ref l, hv, .inl ⟨rfl, vs, SqL.of hl⟩, h F H (N - c) (.refl e) fa (s.le (by omega)) _ fun w zs F' H' g fa' s' p ⟨b, ws, eb, hb, pr⟩ => by
    subst eb
    exact ⟨l, b, vs, ws, rfl, rfl, g.hh _ _ hne hl, g.fh _ _ hb, by rw [pr.length]; exact hz zs p, k ws zs F' H' g fa' s' p pr (g.hh _ _ hne hl)⟩⟩
/-- [elt for k in range(m, n) if test], the test a draw -/
theorem es_lcR2F {j B m n c2 : Nat} {vs : List Nat} (f : Nat → β) (ha : ∀ F1 H1, Gr (M1 a) F H F1 H1 → F1 a = none → Ev rInt ta σ F1 H1 (m : Int)) (hb : ∀ F1 H1, Gr (M1 a) F H F1 H1 → F1 a = none → Ev rInt tb σ F1 H1 (n : Int)) (hB : n - m ≤ B) (hB2 : B ≤ 1000000) (hm : m ≤ 1000000) (hn : n ≤ 1000000) (hw : ∀ v, wipe ((wipe σ vs).set j (some v)) vs = wipe σ vs)
    (ht : ∀ i : Nat, m + i < n → ∀ F1 H1, Gr (M1 a) F H F1 H1 → F1 a = none → EvTS a c2 tt ((wipe σ vs).set j (some (.int ((m + i : Nat) : Int)))) F1 H1 (fun _ => True))
    (he : ∀ i : Nat, m + i < n → ∀ F1 H1, Gr (M1 a) F H F1 H1 → F1 a = none → Ev S te ((wipe σ vs).set j (some (.int ((m + i : Nat) : Int)))) F1 H1 (f (m + i))) (m' : Mn S := by infer_instance) :
    EvS a (B * c2) (rLst S) (tLc (iRng2 (tCons ta (tCons tb tNil))) (gName j) tt te vs) σ F H (fun l => ∃ is : List Nat, l = is.map f ∧ is.Nodup ∧ is.length ≤ n - m ∧ ∀ i ∈ is, m ≤ i ∧ i < n) := by
  intro F1 H1 N g1 fa s Q q
  obtain ⟨o1, ho1⟩ := s.someO
  refine ha F1 H1 g1 fa F1 H1 (.refl g1.fh) _ fun v F2 H2 g2 ea => ?_
  have fa2 := g2.nn ho1 fa
  have s2 := s.gr g2
  obtain ⟨o2, ho2⟩ := s2.someO
  refine hb F2 H2 (g1.trans g2.up) fa2 F2 H2 (.refl g2.fh) _ fun w F3 H3 g3 eb => ?_
  have fa3 := g3.nn ho2 fa2
  have s3 := s2.gr g3
  have g123 := g1.trans (g2.trans g3).up
  refine ⟨(m : Int), (n : Int), by rw [show v = _ from ea, show w = _ from eb], ⟨by omega, by omega, by omega, by omega⟩, fun B' hD => ?_⟩
  rw [show ((n : Int) - (m : Int)).toNat = n - m by omega]
  have hne : B' ≠ a := fun z => by
    subst z
    exact s3.hn hD
  refine lc_range (lo := (m : Int)) (n := n - m) (fun i H' => ∃ F' us is, Gr (M1 a) F3 H3 F' H' ∧ F' a = none ∧ Src H' a (N + (B - i) * c2) ∧ F' B' = none ∧ H' B' = some (.lst us) ∧ is.length ≤ i ∧ Paired (S F') us (is.map f) ∧ is.Nodup ∧ ∀ t ∈ is, m ≤ t ∧ t < m + i)
    ⟨F3, [], [], .loc g3.fh hD, fa3, (by rw [Nat.sub_zero]; exact s3.ex (upd_ne hne.symm)), g3.fh.free hD, upd_same, Nat.le_refl _, .nil, List.nodup_nil, fun t h => nomatch h⟩ ?_ ?_
  · rintro i H' hi ⟨F', us, is, g, fa', s', fD, hD', hl, pu, nd, hP⟩
    have e0 : (m : Int) + (i : Int) = ((m + i : Nat) : Int) := by omega
    rw [e0]
    refine ⟨hw _, ?_⟩
    have hbb : (B - i) * c2 = (B - (i + 1)) * c2 + c2 := by
      rw [show B - i = (B - (i + 1)) + 1 by omega, Nat.succ_mul]
    refine ht i (by omega) F' H' (g123.trans g) fa' F' H' (N + (B - (i + 1)) * c2) (.refl g.fh) fa' (s'.le (by omega)) _ fun b F4 H4 g4 fa4 s4 _ => ?_
    have hD4 : H4 B' = some (.lst us) := g4.hh _ _ hne hD'
    have fD4 : F4 B' = none := g4.nw B' hne (by rw [hD']; exact fun z => nomatch z) fD
    cases b with
    | false => exact ⟨F4, us, is, g.trans g4, fa4, s4, fD4, hD4, by omega, Paired.up g4.ff pu, nd, fun t ht => by have := hP t ht; omega⟩
    | true =>
      refine he i (by omega) F4 H4 (g123.trans (g.trans g4)) fa4 F4 H4 (.refl g4.fh) _ fun u5 F5 H5 g5 r5 => ?_
      obtain ⟨o4, ho4⟩ := s4.someO
      have hD5 := g5.hx _ _ hD4
      have fD5 := g5.nn hD4 fD4
      refine ⟨us, hD5, ?_, F5, us ++ [u5], is ++ [m + i], ((g.trans g4).trans g5.up).set' fD5 (.inl hD), g5.nn ho4 fa4, (s4.gr g5).ex (upd_ne hne.symm), fD5, upd_same, by rw [List.length_append]; show _ + 1 ≤ _; omega, ?_, ?_, fun t ht => ?_⟩
      · rw [pu.length, List.length_map, sizeLine_eq]
        omega
      · rw [List.map_append]
        exact (Paired.up (g4.ff.trans g5.ff) pu).snoc r5
      · refine List.nodup_append.mpr ⟨nd, by simp, fun x hx y hy => ?_⟩
        rw [List.mem_singleton.mp hy]
        have := hP x hx
        omega
      · rcases List.mem_append.mp ht with h | h
        · have := hP t h; omega
        · rw [List.mem_singleton.mp h]; omega
  · rintro H' ⟨F', us, is, g, fa', s', fD, hD', hl, pu, nd, hP⟩
    exact q _ (is.map f) _ _ ((g2.trans g3).up.trans (g.frz hD' (g3.fh.free hD) (.inl hD))) (by rw [upd_ne hne.symm]; exact fa') (s'.le (Nat.le_add_right _ _)) ⟨is, rfl, nd, hl, fun t ht => by have := hP t ht; omega⟩ ⟨B', us, rfl, upd_same, Paired.up (g.fh.frz hD' fD) pu⟩
/-- [elt for x, y in zip(xs, ys)] -/
theorem ev_lcZ {zs : List γ} {i j : Nat} {vs : List Nat} (ha : Ev (rLst R) ta σ F H xs) (hb : Ev (rLst S) tb σ F H ys) (hlen : zs.length = min xs.length ys.length) (hz : zs.length ≤ 1000000) (hw : ∀ v w, wipe (((wipe σ vs).set i (some v)).set j (some w)) vs = wipe σ vs)
    (he : ∀ (n : Nat) x y z v w F1 H1, xs[n]? = some x → ys[n]? = some y → zs[n]? = some z → Gr M0 F H F1 H1 → R F1 v x → S F1 w y → Ev T te (((wipe σ vs).set i (some v)).set j (some w)) F1 H1 z) (m : Mn R := by infer_instance) (m2 : Mn S := by infer_instance) (m' : Mn T := by infer_instance) :
    Ev (rLst T) (tLc (iZip K (tCons ta (tCons tb tNil))) (gTup K 2 (gCons (gName i) (gCons (gName j) gNil))) tYes te vs) σ F H zs := by
  intro F1 H1 g1 Q q
  refine ha F1 H1 g1 _ fun v F2 H2 g2 ⟨a, ws, ea, hl, pr⟩ => hb F2 H2 (g1.trans g2) _ fun v2 F3 H3 g3 ⟨b, us2, eb, hl2, pr2⟩ => ⟨a, b, ws, us2, by rw [ea, eb], SqL.of (g3.fh _ _ (g3.ff _ _ hl)), SqL.of (g3.fh _ _ hl2), fun D hD => ?_⟩
  refine lc_it (walk_zip (n := zs.length) (by rw [pr.length, pr2.length]; exact hlen)) (fun i H' => ∃ F' us, Gr M0 F3 H3 F' H' ∧ F' D = none ∧ H' D = some (.lst us) ∧ Paired (T F') us (zs.take i)) ⟨F3, [], .loc g3.fh hD, g3.fh.free hD, upd_same, .nil⟩ (fun i H' _ ⟨F', us, g, _⟩ => ⟨SqL.of (g.fh _ _ (g.ff _ _ (g3.ff _ _ hl))), SqL.of (g.fh _ _ (g.ff _ _ hl2))⟩) ?_ ?_
  · rintro n w H' H4 hi ⟨F', us, g, fD, hD', pu⟩ ⟨B, u1, u2, rfl, hT, rfl, h1, h2⟩
    obtain ⟨x, hx, rx⟩ := Paired.getL pr h1
    obtain ⟨y, hy, ry⟩ := Paired.getL pr2 h2
    have hzn : zs[n]? = some zs[n] := List.getElem?_eq_getElem hi
    have gB : Gr M0 F' H' F' (upd H' B (.tup [u1, u2])) := .loc g.fh hT
    have hBD : B ≠ D := fun z => by subst z; rw [hD'] at hT; cases hT
    refine ⟨B, [u1, u2], rfl, SqT.of upd_same, rfl, u1, [u2], rfl, u2, [], rfl, rfl, hw _ _, ?_⟩
    refine he n x y zs[n] u1 u2 F' _ hx hy hzn ((((g1.trans g2).trans g3).trans g).trans gB) (m.mono (g3.ff.trans g.ff) rx) (m2.mono g.ff ry) F' _ (.refl gB.fh) _ fun u F5 H5 g5 r5 => ?_
    have hD2 := gB.hx _ _ hD'
    have g45 := gB.trans g5
    refine ⟨us, g45.hx _ _ hD', ?_, F5, us ++ [u], (g.trans g45).set' (g45.nn hD' fD) (.inl hD), g45.nn hD' fD, upd_same, ?_⟩
    · rw [pu.length, List.length_take, sizeLine_eq]
      omega
    · rw [List.take_add_one, hzn]
      exact (Paired.up g45.ff pu).snoc r5
  · rintro H' ⟨F', us, g, fD, hD', pu⟩
    rw [List.take_length] at pu
    exact q _ _ _ ((g2.trans g3).trans (g.frz hD' (g3.fh.free hD) (.inl hD))) ⟨D, us, rfl, upd_same, Paired.up (g.fh.frz hD' fD) pu⟩
theorem kzip {e e2 : Expr} {ta : TA} {p pos tpos : Pos} {elts : List Expr} {kk : Nat} {X : Cx} (hg : Gl X "zip") (hm : X.mg "zip" = none) (ha : PA X [e, e2] ta)
    (hs : starEach [e, e2] X.env = (false, eval e X.env) :: starEach [e2] X.env := by rfl) (hpl : (backTo pos (starEach [e2] X.env)).any (·.1) = false := by rfl) (hK : X.K = K := by rfl) :
    PI X (.Tuple elts kk tpos) (.Call (.Name "zip" p) [e, e2] [] pos) (iZip K ta) := by
  subst hK
  exact pi_zip hg hm ha hs hpl
end
end El

set_option Elab.async false
set_option linter.all false
set_option maxRecDepth 100000
set_option maxHeartbeats 4000000
namespace El
open PySem PySem.Spec L2
def upsM (p n : Nat) : List Bool := (List.range n).map (upB p)
def placeM (us : List Bool) : Nat := us.foldr (fun b a => 2 * a + (if b = true then 1 else 0)) 0
def besideM (ties : List (Nat × Nat)) (s : Nat) : List Nat := ((ties.filter fun x => decide (x.1 = s)).map (·.2)) ++ ((ties.filter fun x => decide (x.2 = s)).map (·.1))
def lcntM (ups : List Bool) (ties : List (Nat × Nat)) (s : Nat) : Nat := ((besideM ties s).filter fun o => ups.getD o false).length
def lmovedM (ups : List Bool) (ties : List (Nat × Nat)) (levels : List Nat) (s k : Nat) : List Bool := ups.set s (decide (k < levels.getD (lcntM ups ties s) 0))
def mvM (ties : List (Nat × Nat)) (levels : List Nat) (p s k : Nat) : Nat := p + (if decide (k < levels.getD (countM ties p s) 0) = true then 2 ^ s else 0) - (if upB p s = true then 2 ^ s else 0)
def lmapsM (spots : Nat) (ties : List (Nat × Nat)) (whole : Nat) (levels : List Nat) (many : Nat) : List (List Nat) := ((List.range spots).map fun s => (List.range whole).map fun k => (List.range many).map fun p => mvM ties levels p s k).flatten
theorem lmaps_eq (W : Wb) : lmapsM W.spots W.ties W.whole W.levels (2 ^ W.spots) = turnsML W := rfl
theorem beside_len (g : Nat → Bool) (s : Nat) : ∀ ties : List (Nat × Nat), (∀ x ∈ ties, x.1 < x.2) → ((besideM ties s).filter g).length = ((tiedM ties s).filter g).length
  | [], _ => rfl
  | x :: l, h => by
    have ih := beside_len g s l fun y hy => h y (List.mem_cons_of_mem _ hy)
    have hx := h x List.mem_cons_self
    unfold besideM tiedM at ih ⊢
    rw [List.filter_append, List.length_append] at ih ⊢
    rw [List.filter_cons, List.filter_cons, List.filter_cons]
    by_cases h1 : x.1 = s
    · have h2 : x.2 ≠ s := by omega
      rw [if_pos (decide_eq_true h1), if_neg (by rw [decide_eq_false h2]; exact Bool.false_ne_true), if_pos (by rw [decide_eq_true h1.symm]; rfl), List.map_cons, List.map_cons, List.filter_cons, List.filter_cons, show x.1 + x.2 - s = x.2 by omega]
      split
      · rw [List.length_cons, List.length_cons]; omega
      · exact ih
    · by_cases h2 : x.2 = s
      · rw [if_neg (by rw [decide_eq_false h1]; exact Bool.false_ne_true), if_pos (decide_eq_true h2), if_pos (by rw [decide_eq_true h2.symm]; exact Bool.or_true _), List.map_cons, List.map_cons, List.filter_cons, List.filter_cons, show x.1 + x.2 - s = x.1 by omega]
        split
        · rw [List.length_cons, List.length_cons]; omega
        · exact ih
      · rw [if_neg (by rw [decide_eq_false h1]; exact Bool.false_ne_true), if_neg (by rw [decide_eq_false h2]; exact Bool.false_ne_true), if_neg (by rw [decide_eq_false (fun z => h1 z.symm), decide_eq_false (fun z => h2 z.symm)]; exact Bool.false_ne_true)]
        exact ih
theorem ups_len {p n : Nat} : (upsM p n).length = n := by unfold upsM; rw [List.length_map, List.length_range]
theorem ups_get {p n s : Nat} (h : s < n) : (upsM p n).getD s false = upB p s := by
  unfold upsM
  rw [List.getD_eq_getElem?_getD, List.getElem?_map, List.getElem?_range h]
  rfl
theorem ups_at {p n s : Nat} (h : s < n) : (upsM p n)[s]? = some (upB p s) := by
  unfold upsM
  rw [List.getElem?_map, List.getElem?_range h]
  rfl
theorem beside_mem {W : Wb} {s y : Nat} (h : y ∈ besideM W.ties s) : y < W.spots := by
  unfold besideM at h
  rcases List.mem_append.mp h with h | h
  · obtain ⟨x, hx, rfl⟩ := List.mem_map.mp h
    exact (W.h2 x (List.mem_filter.mp hx).1).2
  · obtain ⟨x, hx, rfl⟩ := List.mem_map.mp h
    have := W.h2 x (List.mem_filter.mp hx).1
    omega
theorem beside_le {W : Wb} {s : Nat} : (besideM W.ties s).length ≤ 50 := by
  unfold besideM
  have := ties_len W
  have h1 := List.length_filter_le (fun x : Nat × Nat => decide (x.1 = s)) W.ties
  have h2 := List.length_filter_le (fun x : Nat × Nat => decide (x.2 = s)) W.ties
  rw [List.length_append, List.length_map, List.length_map]
  omega
theorem lcnt_eq {W : Wb} {p s : Nat} : lcntM (upsM p W.spots) W.ties s = countM W.ties p s := by
  unfold lcntM countM
  rw [beside_len (fun o => (upsM p W.spots).getD o false) s W.ties fun x hx => (W.h2 x hx).1]
  congr 1
  refine List.filter_congr fun y hy => ?_
  exact ups_get (tied_mem hy).1
theorem set_all : ((List.range 6).all fun n => (List.range n).all fun s => (List.range (2 ^ n)).all fun p => [true, false].all fun b => placeM ((upsM p n).set s b) == p + (if b = true then 2 ^ s else 0) - (if upB p s = true then 2 ^ s else 0)) = true := by decide +kernel
theorem lmoved_eq {W : Wb} {p s k : Nat} (hp : p < 2 ^ W.spots) (hs : s < W.spots) : placeM (lmovedM (upsM p W.spots) W.ties W.levels s k) = mvM W.ties W.levels p s k := by
  have h1 := W.h1
  have h := List.all_eq_true.mp (List.all_eq_true.mp (List.all_eq_true.mp set_all W.spots (List.mem_range.mpr (by omega))) s (List.mem_range.mpr hs)) p (List.mem_range.mpr hp)
  have h2 := List.all_eq_true.mp h (decide (k < W.levels.getD (countM W.ties p s) 0)) (by cases decide (k < W.levels.getD (countM W.ties p s) 0) <;> simp)
  unfold lmovedM mvM
  rw [lcnt_eq]
  exact beq_iff_eq.mp h2
theorem full_all : ((List.range 6).all fun n => placeM (List.replicate n true) + 1 == 2 ^ n) = true := by decide +kernel
theorem full_eq {n : Nat} (h : n ≤ 5) : placeM (List.replicate n true) + 1 = 2 ^ n := beq_iff_eq.mp (List.all_eq_true.mp full_all n (List.mem_range.mpr (by omega)))
theorem place_le {us : List Bool} : placeM us < 2 ^ us.length := by
  induction us with
  | nil => decide
  | cons b us ih =>
    show 2 * placeM us + (if b = true then 1 else 0) < 2 ^ (us.length + 1)
    rw [Nat.pow_succ]
    split <;> omega
end El

set_option Elab.async false
set_option linter.all false
set_option maxRecDepth 100000
set_option maxHeartbeats 4000000
namespace El
open PySem PySem.Spec L2
/-! ### Base.__init__(self, ..), Base an own class that has ValueError's -/
structure BaseC (K : PySem.W.Frag) (B : Addr) : Prop where
  ga : PySem.W.specialIn K (.ref B) "__getattribute__" = some (some (.builtin "type.__getattribute__"))
  rd : PySem.W.readsIn K B (.type "type") = true
  ty : PySem.W.typeIn K (.ref B) = some (.type "type")
  ini : PySem.W.findCls K (.ref B) (.type "type") "__init__" = some (.val (.builtin "ValueError.__init__"))
section
variable {X : Cx} {e : Expr} {es : List Expr} {ta : TA} {p1 p2 pos : Pos}
theorem pe_dinit {pl : Sem Bool} {x : Str} {B : Addr} (T : BaseC X.K B) (hg : Gl X x) (hm : X.mg x = some (.ref B)) (ha : PA X (e :: es) ta)
    (hc : eval (.Call (.Attribute (.Name x p1) "__init__" p2) (e :: es) [] pos) X.env = (do
      let ov ← eval (.Name x p1) X.env
      standAt p2.atName
      let (f, first) ← holding [ov] (getMethod ov "__init__" pl)
      callWith pos f first (backTo pos (starEach (e :: es) X.env)) (backToKw pos (keywordEach [] X.env))) := by rfl)
    (he : starEach (e :: es) X.env = (false, eval e X.env) :: starEach es X.env := by rfl) (hpl : (backTo pos (starEach es X.env)).any (·.1) = false := by rfl) (hdb : (x == ("__debug__" : Str)) = false := by decide) :
    PE X (.Call (.Attribute (.Name x p1) "__init__" p2) (e :: es) [] pos) (tVeI X.K ta) := by
  refine ⟨fun pins s σ H Q I h => ?_⟩
  refine PySem.W.methodCall_KW (ld_glob I hg hm ?_ hdb) hc
  obtain ⟨m, fr⟩ := I.fr
  refine PySem.W.method_of_cls fr I.ok.mod.kin T.ga (PySem.W.cls_val fr I.ok.mod.kin T.ty T.rd T.ini (by decide +kernel) ?_)
  show wpAny _ _ (callWith pos (Value.builtin "ValueError.__init__") [] (backTo pos (starEach (e :: es) X.env)) []) _ _ _
  refine PyProof.Rows.callWith_method1 (thn (ha.run pos pins _ σ H _ (I.tok _) h) fun us s1 ⟨vs, H1, I1, r1, a, C, ws, ev, hl, T, ea, q⟩ => ?_) he hpl
  subst ev
  cases r1 with
  | @cons _ u0 _ ur ra rw' =>
    obtain rfl : u0 = Value.ref a := ra
    have hlen : ur.length ≤ sizeLine := by
      rw [← Paired.length rw', sizeLine_eq]
      omega
    exact oinit_ok T I1 ea hlen fun s' J => ⟨.non, H1, J, rfl, q⟩
end
end El

set_option Elab.async false
set_option linter.all false
set_option maxRecDepth 100000
set_option maxHeartbeats 4000000
namespace El
open PySem PySem.Spec L2
/-! ### sorted -/
def insN (a : Nat) : List Nat → List Nat
  | [] => [a]
  | b :: l => if a ≤ b then a :: b :: l else b :: insN a l
def sortN (l : List Nat) : List Nat := l.foldr insN []
theorem ins_perm (a : Nat) : ∀ l : List Nat, (insN a l).Perm (a :: l)
  | [] => .refl _
  | b :: l => by
    show (if a ≤ b then a :: b :: l else b :: insN a l).Perm _
    split
    · exact .refl _
    · exact ((ins_perm a l).cons b).trans (.swap a b l)
theorem sort_perm : ∀ l : List Nat, (sortN l).Perm l
  | [] => .refl _
  | a :: l => (ins_perm a (sortN l)).trans ((sort_perm l).cons a)
theorem ins_sorted {a : Nat} : ∀ {l : List Nat}, l.Pairwise (· ≤ ·) → (insN a l).Pairwise (· ≤ ·)
  | [], _ => List.pairwise_singleton _ _
  | b :: l, h => by
    obtain ⟨h1, h2⟩ := List.pairwise_cons.mp h
    show (if a ≤ b then a :: b :: l else b :: insN a l).Pairwise _
    split
    · rename_i hab
      refine List.pairwise_cons.mpr ⟨fun c hc => ?_, h⟩
      rcases List.mem_cons.mp hc with rfl | hc
      · exact hab
      · exact Nat.le_trans hab (h1 c hc)
    · rename_i hab
      refine List.pairwise_cons.mpr ⟨fun c hc => ?_, ins_sorted h2⟩
      rcases List.mem_cons.mp ((ins_perm a l).mem_iff.mp hc) with rfl | hc
      · omega
      · exact h1 c hc
theorem sort_sorted : ∀ l : List Nat, (sortN l).Pairwise (· ≤ ·)
  | [] => .nil
  | _ :: l => ins_sorted (sort_sorted l)
theorem sorted_eq : ∀ {l m : List Nat}, l.Perm m → l.Pairwise (· ≤ ·) → m.Pairwise (· ≤ ·) → l = m
  | [], m, p, _, _ => by rw [p.nil_eq]
  | a :: l, [], p, _, _ => by have := p.length_eq; cases this
  | a :: l, b :: m, p, h1, h2 => by
    obtain ⟨a1, a2⟩ := List.pairwise_cons.mp h1
    obtain ⟨b1, b2⟩ := List.pairwise_cons.mp h2
    have e : a = b := by
      have ha : a ∈ b :: m := p.mem_iff.mp List.mem_cons_self
      have hb : b ∈ a :: l := p.mem_iff.mpr List.mem_cons_self
      rcases List.mem_cons.mp ha with h | h
      · exact h
      · rcases List.mem_cons.mp hb with h' | h'
        · exact h'.symm
        · have := b1 a h; have := a1 b h'; omega
    subst e
    rw [sorted_eq (List.Perm.cons_inv p) a2 b2]
theorem sort_mem {l : List Nat} {x : Nat} : x ∈ sortN l ↔ x ∈ l := (sort_perm l).mem_iff
theorem ints_nats : ∀ {ks : List Int} {ns : List Nat}, ks.Perm (ns.map fun n : Nat => (n : Int)) → ∃ ms : List Nat, ks = ms.map fun n : Nat => (n : Int) := fun {ks ns} p => by
  have : ∀ k ∈ ks, ∃ n : Nat, k = (n : Int) := fun k hk => by
    obtain ⟨n, _, rfl⟩ := List.mem_map.mp (p.mem_iff.mp hk)
    exact ⟨n, rfl⟩
  clear p
  induction ks with
  | nil => exact ⟨[], rfl⟩
  | cons k ks ih =>
    obtain ⟨n, rfl⟩ := this k List.mem_cons_self
    obtain ⟨ms, rfl⟩ := ih fun j hj => this j (List.mem_cons_of_mem _ hj)
    exact ⟨n :: ms, rfl⟩
theorem perm_nats : ∀ {ms ns : List Nat}, (ms.map fun n : Nat => (n : Int)).Perm (ns.map fun n : Nat => (n : Int)) → ms.Perm ns := fun {ms ns} p => by
  have h := p.map Int.toNat
  rw [List.map_map, List.map_map] at h
  have e : ∀ l : List Nat, l.map (Int.toNat ∘ fun n : Nat => (n : Int)) = l := fun l => by
    have : l.map (Int.toNat ∘ fun n : Nat => (n : Int)) = l.map id := List.map_congr_left fun n _ => Int.toNat_natCast n
    rw [this, List.map_id]
  rw [e, e] at h
  exact h
theorem sorted_ints {ys : List Int} {ks : List Nat} (p : ys.Perm (ks.map fun n : Nat => (n : Int))) (h : ys.Pairwise (· ≤ ·)) : ys = (sortN ks).map fun n : Nat => (n : Int) := by
  obtain ⟨ms, rfl⟩ := ints_nats p
  have p2 := perm_nats p
  rw [List.pairwise_map] at h
  rw [sorted_eq (p2.trans (sort_perm ks).symm) (h.imp fun {a b} hab => by omega) (sort_sorted ks)]
section
variable {K : PySem.W.Frag} {σ : St} {F H F' H' : Hp} {ta td te tl : TE} {ks : List Nat}
theorem ev_sortD (hd : Ev rDct td σ F H ks) (hz : ks.length < 64) : Ev (rLst rNat) (tCB (fun xs H Q => ∃ (a : Addr) (kvs : List (Key × V)) (ks : List Int), xs = [.ref a] ∧ Rd H a (.dK kvs) ∧ kvs.map (·.1) = ks.map Sum.inl ∧ ks.length < 64 ∧
    ∀ (ys : List Int) (p : Addr), ys.Perm ks → ys.Pairwise (· ≤ ·) → H p = none → Q (.ref p) (upd H p (.lst (ys.map V.int)))) (tCons td tNil)) σ F H (sortN ks) := fun F1 H1 g1 Q q =>
  hd F1 H1 g1 _ fun v F2 H2 g2 ⟨a, e, h⟩ => ⟨a, kvsOf ks, ks.map fun n : Nat => (n : Int), by rw [e], .inl (g2.fh _ _ h), by unfold kvsOf; rw [List.map_map, List.map_map]; rfl, by rw [List.length_map]; exact hz, fun ys p hp hs hn => by
    rw [sorted_ints hp hs, List.map_map]
    exact q _ _ _ (g2.trans (.new g2.fh hn)) ⟨p, _, rfl, upd_same, nats_P _ _⟩⟩
theorem ev_sortL (hd : Ev (rLst rNat) td σ F H ks) (hz : ks.length < 64) : Ev (rLst rNat) (tCB (rSorted K) (tCons td tNil)) σ F H (sortN ks) := fun F1 H1 g1 Q q =>
  hd F1 H1 g1 _ fun v F2 H2 g2 ⟨a, vs, e, h, p⟩ => ⟨a, ks.map fun n : Nat => (n : Int), by rw [e], by rw [← nats_paired p]; exact SqL.of (g2.fh _ _ h), by rw [List.length_map]; exact hz, fun ys p hp hs hn => by
    rw [sorted_ints hp hs, List.map_map]
    exact q _ _ _ (g2.trans (.new g2.fh hn)) ⟨p, _, rfl, upd_same, nats_P _ _⟩⟩
end
end El

set_option Elab.async false
set_option linter.all false
set_option maxRecDepth 100000
set_option maxHeartbeats 4000000
namespace El
open PySem PySem.Spec L2
/-! ### tuples of three -/
def r3 {α β γ : Type} (R : Rp α) (S : Rp β) (T : Rp γ) : Rp (α × β × γ) := fun H v p => ∃ a x y z, v = .ref a ∧ H a = some (.tup [x, y, z]) ∧ R H x p.1 ∧ S H y p.2.1 ∧ T H z p.2.2
instance {α β γ : Type} {R : Rp α} {S : Rp β} {T : Rp γ} [m : Mn R] [n : Mn S] [o : Mn T] : Mn (r3 R S T) := ⟨fun e ⟨a, x, y, z, h1, h2, h3, h4, h5⟩ => ⟨a, x, y, z, h1, e _ _ h2, m.mono e h3, n.mono e h4, o.mono e h5⟩⟩
instance {α β γ : Type} {R : Rp α} {S : Rp β} {T : Rp γ} : NotN (r3 R S T) := ⟨fun ⟨_, _, _, _, h, _⟩ e => by rw [h] at e; cases e⟩
instance {α β γ : Type} {R : Rp α} {S : Rp β} {T : Rp γ} [d1 : Dt R] [d2 : Dt S] [d3 : Dt T] : Dt (r3 R S T) where
  data := fun p => .tuple [d1.data p.1, d2.data p.2.1, d3.data p.2.2]
  rep := fun e ⟨a, x, y, z, h1, h2, h3, h4, h5⟩ => by
    subst h1
    exact .tup (SqT.of (e _ _ h2)) (.cons (d1.rep e h3) (.cons (d2.rep e h4) (.cons (d3.rep e h5) .nil)))
  lay := fun p => by
    show (PyData.canLay0 (d1.data p.1) && (PyData.canLay0 (d2.data p.2.1) && (PyData.canLay0 (d3.data p.2.2) && true))) = true
    rw [d1.lay, d2.lay, d3.lay]
    rfl
  dep := 1 + max d1.dep (max d2.dep d3.dep)
  depth := fun p => by
    have h1 := d1.depth p.1
    have h2 := d2.depth p.2.1
    have h3 := d3.depth p.2.2
    show max (PyData.depth (d1.data p.1)) (max (PyData.depth (d2.data p.2.1)) (max (PyData.depth (d3.data p.2.2)) 0)) + 1 ≤ _
    omega
  eqv := fun x y => by
    show (PyData.eqv (d1.data x.1) (d1.data y.1) && (PyData.eqv (d2.data x.2.1) (d2.data y.2.1) && (PyData.eqv (d3.data x.2.2) (d3.data y.2.2) && true))) = true ↔ _
    rw [Bool.and_eq_true, Bool.and_eq_true, Bool.and_true, d1.eqv, d2.eqv, d3.eqv]
    obtain ⟨a, b, c⟩ := x
    obtain ⟨a', b', c'⟩ := y
    simp
instance {α β γ : Type} {R : Rp α} {S : Rp β} {T : Rp γ} [d1 : Dt R] [d2 : Dt S] [d3 : Dt T] : NotNoneD (r3 R S T) := ⟨fun _ => fun z => nomatch z⟩
theorem ev_r3 {σ : St} {F H : Hp} {ta tb tc : TE} {α β γ : Type} {R : Rp α} {S : Rp β} {T : Rp γ} {x : α} {y : β} {z : γ} (ha : Ev R ta σ F H x) (hb : Ev S tb σ F H y) (hc : Ev T tc σ F H z) (m : Mn R := by infer_instance) (n : Mn S := by infer_instance) (m2 : Mn T := by infer_instance) :
    Ev (r3 R S T) (tTup (tCons ta (tCons tb (tCons tc tNil)))) σ F H (x, y, z) := fun F1 H1 g1 Q q =>
  ha F1 H1 g1 _ fun v F2 H2 g2 r1 => hb F2 H2 (g1.trans g2) _ fun w F3 H3 g3 r2 => hc F3 H3 ((g1.trans g2).trans g3) _ fun v3 F4 H4 g4 r3 =>
    ⟨by show 3 ≤ sizeLine; decide, fun B hB => by
      have g6 : Gr M0 F4 H4 (upd F4 B (.tup [v, w, v3])) (upd H4 B (.tup [v, w, v3])) := .new g4.fh hB
      exact q _ _ _ (g2.trans (g3.trans (g4.trans g6))) ⟨B, v, w, v3, rfl, upd_same, m.mono (g3.ff.trans (g4.ff.trans g6.ff)) r1, n.mono (g4.ff.trans g6.ff) r2, m2.mono g6.ff r3⟩⟩
/-! ### not kept -/
def trisG (hs : List (List Nat)) (s x : Nat) : List (Nat × Nat × Nat) := (sortN (hs.getD x [])).map fun y => (s, x, y)
def trisS (n : Nat) (hs : List (List Nat)) (s : Nat) : List (Nat × Nat × Nat) := ((List.range n).map (trisG hs s)).flatten
def trisM (t : Tn) (hs : List (List Nat)) : List (Nat × Nat × Nat) := ((List.range t.maps.length).map (trisS t.many hs)).flatten
def badB (t : Tn) (hs : List (List Nat)) (p : Nat × Nat × Nat) : Bool := !atMostM hs ((t.maps.getD p.1 []).getD p.2.1 0) ((t.maps.getD p.1 []).getD p.2.2 0)
def notKeptM (t : Tn) (hs : List (List Nat)) : Option (Nat × Nat × Nat) := (trisM t hs).find? (badB t hs)
theorem range_split {n : Nat} : ∀ {s : Nat}, s < n → ∃ post, List.range n = List.range s ++ s :: post := fun {s} h => by
  refine ⟨(List.range n).drop (s + 1), ?_⟩
  have h1 : (List.range n).take s = List.range s := by rw [List.take_range, Nat.min_eq_left (Nat.le_of_lt h)]
  have h2 : (List.range n).drop s = s :: (List.range n).drop (s + 1) := by
    rw [List.drop_eq_getElem_cons (by rw [List.length_range]; exact h), List.getElem_range]
  rw [← h1, ← h2, List.take_append_drop]
theorem flat_split {α : Type} (f : Nat → List α) {n s : Nat} (h : s < n) : ∃ post, ((List.range n).map f).flatten = ((List.range s).map f).flatten ++ (f s ++ post) := by
  obtain ⟨post, hp⟩ := range_split h
  exact ⟨(post.map f).flatten, by rw [hp, List.map_append, List.flatten_append, List.map_cons, List.flatten_cons]⟩
theorem flat_succ {α : Type} (f : Nat → List α) (s : Nat) : ((List.range (s + 1)).map f).flatten = ((List.range s).map f).flatten ++ f s := by
  rw [List.range_succ, List.map_append, List.flatten_append]
  show _ ++ List.flatten [f s] = _
  rw [List.flatten_cons, List.flatten_nil, List.append_nil]
theorem find_none_app {α : Type} {p : α → Bool} {xs ys : List α} (h1 : xs.find? p = none) (h2 : ys.find? p = none) : (xs ++ ys).find? p = none := by
  rw [List.find?_append, h1, h2]
  rfl
theorem find_hit {α : Type} {p : α → Bool} {pre post : List α} {a : α} (h1 : pre.find? p = none) (h2 : p a = true) : (pre ++ a :: post).find? p = some a := by
  rw [List.find?_append, h1, List.find?_cons, h2]
  rfl
theorem tri_hit {t : Tn} {hs : List (List Nat)} {s x k y : Nat} (hs1 : s < t.maps.length) (hx : x < t.many) (hy : (sortN (hs.getD x []))[k]? = some y)
    (h1 : (((List.range s).map (trisS t.many hs)).flatten).find? (badB t hs) = none) (h2 : (((List.range x).map (trisG hs s)).flatten).find? (badB t hs) = none) (h3 : ((trisG hs s x).take k).find? (badB t hs) = none) (hb : badB t hs (s, x, y) = true) : notKeptM t hs = some (s, x, y) := by
  unfold notKeptM trisM
  obtain ⟨p1, e1⟩ := flat_split (trisS t.many hs) hs1
  obtain ⟨p2, e2⟩ := flat_split (trisG hs s) hx
  rw [e1, show trisS t.many hs s = ((List.range t.many).map (trisG hs s)).flatten from rfl, e2]
  have e3 : trisG hs s x = (trisG hs s x).take k ++ (s, x, y) :: (trisG hs s x).drop (k + 1) := by
    have hk : (trisG hs s x)[k]? = some (s, x, y) := by
      unfold trisG
      rw [List.getElem?_map, hy]
      rfl
    obtain ⟨hl, he⟩ := List.getElem?_eq_some_iff.mp hk
    have : (trisG hs s x).drop k = (s, x, y) :: (trisG hs s x).drop (k + 1) := by rw [List.drop_eq_getElem_cons hl, he]
    rw [← this, List.take_append_drop]
  rw [e3]
  rw [show ((List.range s).map (trisS t.many hs)).flatten ++ (((List.range x).map (trisG hs s)).flatten ++ (((trisG hs s x).take k ++ (s, x, y) :: (trisG hs s x).drop (k + 1)) ++ p2) ++ p1) = (((List.range s).map (trisS t.many hs)).flatten ++ (((List.range x).map (trisG hs s)).flatten ++ (trisG hs s x).take k)) ++ (s, x, y) :: ((trisG hs s x).drop (k + 1) ++ p2 ++ p1) by simp [List.append_assoc]]
  exact find_hit (find_none_app h1 (find_none_app h2 h3)) hb
theorem not_none {t : Tn} {hs : List (List Nat)} (h : notKeptM t hs = none) {s x y : Nat} (h1 : s < t.maps.length) (hx : x < t.many) (hy : y ∈ hs.getD x []) : atMostM hs ((t.maps.getD s []).getD x 0) ((t.maps.getD s []).getD y 0) = true := by
  unfold notKeptM at h
  have := List.find?_eq_none.mp h (s, x, y) (List.mem_flatten.mpr ⟨trisS t.many hs s, List.mem_map.mpr ⟨s, List.mem_range.mpr h1, rfl⟩, List.mem_flatten.mpr ⟨trisG hs s x, List.mem_map.mpr ⟨x, List.mem_range.mpr hx, rfl⟩, List.mem_map.mpr ⟨y, sort_mem.mpr hy, rfl⟩⟩⟩)
  unfold badB at this
  simpa using this
theorem not_some {t : Tn} {hs : List (List Nat)} {s x y : Nat} (h : notKeptM t hs = some (s, x, y)) : s < t.maps.length ∧ x < t.many ∧ y ∈ hs.getD x [] ∧ atMostM hs ((t.maps.getD s []).getD x 0) ((t.maps.getD s []).getD y 0) = false := by
  unfold notKeptM at h
  have hb := List.find?_some h
  have hm := List.mem_of_find?_eq_some h
  obtain ⟨l, hl, hm⟩ := List.mem_flatten.mp hm
  obtain ⟨s', hs', rfl⟩ := List.mem_map.mp hl
  obtain ⟨l2, hl2, hm⟩ := List.mem_flatten.mp hm
  obtain ⟨x', hx', rfl⟩ := List.mem_map.mp hl2
  obtain ⟨y', hy', e⟩ := List.mem_map.mp hm
  cases e
  refine ⟨List.mem_range.mp hs', List.mem_range.mp hx', sort_mem.mp hy', ?_⟩
  unfold badB at hb
  simpa using hb
theorem sort_len (l : List Nat) : (sortN l).length = l.length := (sort_perm l).length_eq
end El

set_option Elab.async false
set_option linter.all false
set_option maxRecDepth 100000
set_option maxHeartbeats 4000000
namespace El
open PySem PySem.Spec L2
/-! ### own exceptions that keep a value -/
/-- C.__init__(self, v): Base.__init__(self, text); self.f = v -/
def spKeep (C : Addr) (f : Str) : Sp := fun vs H Q _ => ∃ a v, vs = [.ref a, v] ∧ H a = some (exo a C none) ∧ ∀ dx, H dx = none → dx ≠ a → Q .non (upd (upd H dx (exd dx [(f, v)])) a (exo a C (some dx)))
instance {C : Addr} {f : Str} : SpLen (spKeep C f) 2 := ⟨fun ⟨_, _, h, _⟩ => by rw [h]; rfl⟩
section
variable {K : PySem.W.Frag} {σ : St} {F H F' H' : Hp} {ta te : TE} {α : Type} {R : Rp α} {x : α} {D : Ends} {C : Addr} {f : Str} {W : WX}
theorem x_raise (e : Ex F H) (h : Ev R te σ F H x) (k : ∀ v d F' H', Gr M0 F H F' H' → R F' v x → H' d = none → W (.ref C) (some d) σ (upd H' d (.xd [(f, v)]))) :
    tMkO C (spKeep C f) [] (tCons te tNil) σ H (fun cls d H' => W cls d σ H') :=
  h F H (.refl e) _ fun v F1 H1 g r => ⟨by show 1 ≤ 1000; decide, fun a ha => ⟨a, v, rfl, upd_same, fun dx hdx hne => ⟨rfl, dx, [(f, v)], by rw [upd_same], by rw [upd_ne hne, upd_same], by rw [upd_ne hne] at hdx; exact hdx, by
    have hdx1 : H1 dx = none := by rw [upd_ne hne] at hdx; exact hdx
    have eq : upd (del (upd (upd (upd H1 a (exo a C none)) dx (exd dx [(f, v)])) a (exo a C (some dx))) a) dx (.xd [(f, v)]) = upd H1 dx (.xd [(f, v)]) := by
      funext b
      by_cases hb : b = dx
      · rw [hb, upd_same, upd_same]
      · rw [upd_ne hb, upd_ne hb]
        by_cases hb2 : b = a
        · rw [hb2, del_same, ha]
        · rw [del_ne hb2, upd_ne hb2, upd_ne hb, upd_ne hb2]
    rw [eq]
    exact k v dx F1 H1 g r hdx1⟩⟩⟩
end
end El

set_option Elab.async false
set_option linter.all false
set_option maxRecDepth 100000
set_option maxHeartbeats 4000000
namespace El
open PySem PySem.Spec L2
def loopB (t : Tn) (lo hi : Nat) : List Nat → Nat → List Nat → Option (Nat × Nat)
  | f, k, [] => if f.getD lo 0 = f.getD hi 0 then some (f.getD lo 0, k) else none
  | f, k, s :: xs => if f.getD lo 0 = f.getD hi 0 then some (f.getD lo 0, k) else loopB t lo hi (thenM (t.maps.getD s []) f) (k + 1) xs
theorem loopB_hit {t : Tn} {lo hi k : Nat} {f xs : List Nat} (h : f.getD lo 0 = f.getD hi 0) : loopB t lo hi f k xs = some (f.getD lo 0, k) := by
  cases xs <;> (unfold loopB; rw [if_pos h])
theorem loopB_go {t : Tn} {lo hi k s : Nat} {f xs : List Nat} (h : ¬ f.getD lo 0 = f.getD hi 0) : loopB t lo hi f k (s :: xs) = loopB t lo hi (thenM (t.maps.getD s []) f) (k + 1) xs := by
  rw [loopB, if_neg h]
def GoodK (t : Tn) (hs : List (List Nat)) : Prop := hs.length = t.many ∧ (∀ x, x < t.many → ∀ y ∈ hs.getD x [], y < t.many) ∧ ∀ x, x < t.many → (hs.getD x []).length < 64
def SpBetween (CT CO CX : Addr) : Sp := fun vs H Q E => ∃ (F : Hp) (v w u : V) (t : Tn) (hs : List (List Nat)) (xs : List Nat) (lo hi : Nat), vs = [v, w, u] ∧ Ex F H ∧ rTurns CT F v t ∧ rOrder CO F w hs ∧ rLst rNat F u xs ∧
  GoodK t hs ∧ leastM hs = some lo ∧ greatestM hs = some hi ∧ lo < t.many ∧ hi < t.many ∧ (∀ s ∈ xs, s < t.maps.length) ∧ xs.length ≤ 1000000 ∧
  (notKeptM t hs = none → ∀ r F' H', Gr M0 F H F' H' → rOpt (rPr rNat rNat) F' r (loopB t lo hi (idMap t.many) 0 xs) → Q r H') ∧
  ∀ p, notKeptM t hs = some p → ∀ v d F' H', Gr M0 F H F' H' → r3 rNat rNat rNat F' v p → H' d = none → E (.ref CX) (some d) (upd H' d (.xd [(("kept" : Str), v)]))
instance {a b c : Addr} : SpLen (SpBetween a b c) 3 := ⟨fun ⟨_, _, _, _, _, _, _, _, _, h, _⟩ => by rw [h]; rfl⟩
end El

set_option Elab.async false
set_option linter.all false
set_option maxRecDepth 100000
set_option maxHeartbeats 4000000
namespace El
open PySem PySem.Spec L2
/-! ### what _law_told tells -/
abbrev Told := Sum (Option (Nat × Nat)) (Nat × Nat × Nat)
def rTold : Rp Told := fun F v x => match x with
  | .inl o => ∃ a w, v = .ref a ∧ F a = some (.tup [.str ("told" : Str), w]) ∧ rOpt (rPr rNat rNat) F w o
  | .inr p => ∃ a w, v = .ref a ∧ F a = some (.tup [.str ("not kept" : Str), w]) ∧ r3 rNat rNat rNat F w p
instance : Mn rTold := ⟨fun {H H' v x} e h => by
  cases x with
  | inl o => obtain ⟨a, w, h1, h2, h3⟩ := h; exact ⟨a, w, h1, e _ _ h2, Mn.mono e h3⟩
  | inr p => obtain ⟨a, w, h1, h2, h3⟩ := h; exact ⟨a, w, h1, e _ _ h2, Mn.mono e h3⟩⟩
abbrev dO : Dt (rOpt (rPr rNat rNat)) := inferInstance
abbrev d3 : Dt (r3 rNat rNat rNat) := inferInstance
def toldData : Told → PyData
  | .inl o => .tuple [.str ("told" : Str), dO.data o]
  | .inr p => .tuple [.str ("not kept" : Str), d3.data p]
instance : Dt rTold where
  data := toldData
  rep := fun {K F H v x} e h => by
    cases x with
    | inl o => obtain ⟨a, w, h1, h2, h3⟩ := h; subst h1; exact .tup (SqT.of (e _ _ h2)) (.cons (.str _) (.cons (dO.rep e h3) .nil))
    | inr p => obtain ⟨a, w, h1, h2, h3⟩ := h; subst h1; exact .tup (SqT.of (e _ _ h2)) (.cons (.str _) (.cons (d3.rep e h3) .nil))
  lay := fun x => by
    cases x with
    | inl o =>
      show (PyData.strOk ("told" : Str) && (PyData.canLay0 (dO.data o) && true)) = true
      rw [dO.lay, show PyData.strOk ("told" : Str) = true by decide +kernel]
      rfl
    | inr p =>
      show (PyData.strOk ("not kept" : Str) && (PyData.canLay0 (d3.data p) && true)) = true
      rw [d3.lay, show PyData.strOk ("not kept" : Str) = true by decide +kernel]
      rfl
  dep := 10
  depth := fun x => by
    cases x with
    | inl o =>
      have h1 := dO.depth o
      have h2 : dO.dep ≤ 5 := by decide
      show max 0 (max (PyData.depth (dO.data o)) 0) + 1 ≤ 10
      omega
    | inr p =>
      have h1 := d3.depth p
      have h2 : d3.dep ≤ 5 := by decide
      show max 0 (max (PyData.depth (d3.data p)) 0) + 1 ≤ 10
      omega
  eqv := fun x y => by
    have n1 : (("told" : Str) == ("not kept" : Str)) = false := by decide +kernel
    have n2 : (("not kept" : Str) == ("told" : Str)) = false := by decide +kernel
    cases x with
    | inl o =>
      cases y with
      | inl o' =>
        show ((("told" : Str) == ("told" : Str)) && (PyData.eqv (dO.data o) (dO.data o') && true)) = true ↔ _
        rw [beq_self_eq_true, Bool.true_and, Bool.and_true, dO.eqv]
        exact ⟨fun h => by rw [h], fun h => Sum.inl.inj h⟩
      | inr p =>
        show ((("told" : Str) == ("not kept" : Str)) && (PyData.eqv (dO.data o) (d3.data p) && true)) = true ↔ _
        rw [n1, Bool.false_and]
        exact ⟨(fun h => nomatch h), (fun h => nomatch h)⟩
    | inr p =>
      cases y with
      | inl o =>
        show ((("not kept" : Str) == ("told" : Str)) && (PyData.eqv (d3.data p) (dO.data o) && true)) = true ↔ _
        rw [n2, Bool.false_and]
        exact ⟨(fun h => nomatch h), (fun h => nomatch h)⟩
      | inr p' =>
        show ((("not kept" : Str) == ("not kept" : Str)) && (PyData.eqv (d3.data p) (d3.data p') && true)) = true ↔ _
        rw [beq_self_eq_true, Bool.true_and, Bool.and_true, d3.eqv]
        exact ⟨fun h => by rw [h], fun h => Sum.inr.inj h⟩
def toldM (t : Tn) (hs : List (List Nat)) (lo hi : Nat) (xs : List Nat) : Told := match notKeptM t hs with
  | none => .inl (loopB t lo hi (idMap t.many) 0 xs)
  | some p => .inr p
end El

set_option Elab.async false
set_option linter.all false
set_option maxRecDepth 100000
set_option maxHeartbeats 4000000
namespace El
open PySem PySem.Spec L2
/-- the order's law, in plain words -/
structure OrdOk (n : Nat) (hs : List (List Nat)) (lo hi : Nat) : Prop where
  lo_lt : lo < n
  hi_lt : hi < n
  low : ∀ x, x < n → atMostM hs lo x = true
  high : ∀ x, x < n → atMostM hs x hi = true
  anti : ∀ x y, x < n → y < n → atMostM hs x y = true → atMostM hs y x = true → x = y
theorem atMost_refl (hs : List (List Nat)) (x : Nat) : atMostM hs x x = true := by
  unfold atMostM
  rw [decide_eq_true rfl]
  rfl
def MonoM (n : Nat) (hs : List (List Nat)) (f : List Nat) : Prop := ∀ x y, x < n → y < n → atMostM hs x y = true → atMostM hs (f.getD x 0) (f.getD y 0) = true
theorem mono_map {t : Tn} {hs : List (List Nat)} (h : notKeptM t hs = none) {s : Nat} (h1 : s < t.maps.length) : MonoM t.many hs (t.maps.getD s []) := fun x y hx hy hxy => by
  unfold atMostM at hxy
  rcases Bool.or_eq_true_iff.mp hxy with h2 | h2
  · have := of_decide_eq_true h2
    subst this
    exact atMost_refl _ _
  · exact not_none h h1 hx (of_decide_eq_true h2)
theorem then_getM {n : Nat} {a b : List Nat} (ha : IsMap n a) {x : Nat} (hx : x < n) : (thenM a b).getD x 0 = b.getD (a.getD x 0) 0 := by
  unfold thenM
  have hl : x < a.length := by rw [ha.1]; exact hx
  rw [List.getD_eq_getElem?_getD, List.getElem?_map, List.getElem?_eq_getElem hl]
  show b.getD a[x] 0 = _
  rw [List.getD_eq_getElem?_getD (l := a), List.getElem?_eq_getElem hl]
  rfl
theorem map_lt {n : Nat} {a : List Nat} (ha : IsMap n a) {x : Nat} (hx : x < n) : a.getD x 0 < n := by
  have hl : x < a.length := by rw [ha.1]; exact hx
  rw [List.getD_eq_getElem?_getD, List.getElem?_eq_getElem hl]
  exact ha.2 _ (List.getElem_mem hl)
theorem mono_then {n : Nat} {hs : List (List Nat)} {a b : List Nat} (ha : IsMap n a) (ma : MonoM n hs a) (mb : MonoM n hs b) : MonoM n hs (thenM a b) := fun x y hx hy h => by
  rw [then_getM ha hx, then_getM ha hy]
  exact mb _ _ (map_lt ha hx) (map_lt ha hy) (ma x y hx hy h)
theorem mono_id (n : Nat) (hs : List (List Nat)) : MonoM n hs (idMap n) := fun x y hx hy h => by
  have e : ∀ z, z < n → (idMap n).getD z 0 = z := fun z hz => by
    unfold idMap
    rw [List.getD_eq_getElem?_getD, List.getElem?_range hz]
    rfl
  rw [e x hx, e y hy]
  exact h
/-- the two ends agree: all places have met -/
theorem ends_meet {n lo hi : Nat} {hs : List (List Nat)} {f : List Nat} (o : OrdOk n hs lo hi) (hf : IsMap n f) (mf : MonoM n hs f) (h : f.getD lo 0 = f.getD hi 0) : ∀ x ∈ f, x = f.getD lo 0 := fun x hx => by
  obtain ⟨i, hi'⟩ := List.mem_iff_getElem?.mp hx
  have hin : i < n := by rw [← hf.1]; exact (List.getElem?_eq_some_iff.mp hi').1
  have ex : f.getD i 0 = x := by rw [List.getD_eq_getElem?_getD, hi']; rfl
  have h1 := mf lo i o.lo_lt hin (o.low i hin)
  have h2 := mf i hi hin o.hi_lt (o.high i hin)
  rw [ex] at h1 h2
  rw [← h] at h2
  exact o.anti x _ (hf.2 x hx) (map_lt hf o.lo_lt) h2 h1
theorem meet_iff {n lo hi : Nat} {hs : List (List Nat)} {f : List Nat} (o : OrdOk n hs lo hi) (hf : IsMap n f) (mf : MonoM n hs f) : metB f = true ↔ f.getD lo 0 = f.getD hi 0 := by
  have hl : lo < f.length := by rw [hf.1]; exact o.lo_lt
  have hh : hi < f.length := by rw [hf.1]; exact o.hi_lt
  constructor
  · intro h
    exact metB_eq h (List.mem_of_getElem? (getD_at hl)) (List.mem_of_getElem? (getD_at hh))
  · intro h
    refine metB_iff.mpr ⟨fun z => ?_, _, ends_meet o hf mf h⟩
    subst z
    exact absurd hl (Nat.not_lt_zero _)
theorem fold_met {t : Tn} {f : List Nat} {k : Nat} (h : metB f = true) : ∀ xs : List Nat, xs.foldl (drStep t) (f, k) = (f, k)
  | [] => rfl
  | s :: xs => by
    have e : drStep t (f, k) s = (f, k) := by
      unfold drStep
      rw [if_pos h]
    rw [List.foldl_cons, e]
    exact fold_met h xs
def endD (p : List Nat × Nat) : Option (Nat × Nat) := match plc p.1 with
  | none => none
  | some q => some (q, p.2)
theorem between_drawn {t : Tn} {hs : List (List Nat)} {lo hi : Nat} (o : OrdOk t.many hs lo hi) (hn : notKeptM t hs = none) : ∀ (xs f : List Nat) (k : Nat), (∀ s ∈ xs, s < t.maps.length) → IsMap t.many f → MonoM t.many hs f → loopB t lo hi f k xs = endD (xs.foldl (drStep t) (f, k)) := by
  have hit : ∀ (xs f : List Nat) (k : Nat), IsMap t.many f → MonoM t.many hs f → f.getD lo 0 = f.getD hi 0 → loopB t lo hi f k xs = endD (xs.foldl (drStep t) (f, k)) := fun xs f k hf mf h => by
    have hm := (meet_iff o hf mf).mpr h
    have hl : lo < f.length := by rw [hf.1]; exact o.lo_lt
    rw [loopB_hit h, fold_met hm]
    unfold endD plc
    rw [if_pos hm]
    have : f.headD 0 = f.getD lo 0 := by
      cases f with
      | nil => exact absurd hl (Nat.not_lt_zero _)
      | cons a f => exact metB_eq hm List.mem_cons_self (List.mem_of_getElem? (getD_at hl))
    show some (f.getD lo 0, k) = some (f.headD 0, k)
    rw [this]
  intro xs
  induction xs with
  | nil =>
    intro f k _ hf mf
    by_cases h : f.getD lo 0 = f.getD hi 0
    · exact hit [] f k hf mf h
    · have hm : metB f = false := by
        cases q : metB f with
        | false => rfl
        | true => exact absurd ((meet_iff o hf mf).mp q) h
      unfold loopB
      rw [if_neg h]
      show none = endD (f, k)
      unfold endD plc
      rw [if_neg (by rw [hm]; exact Bool.false_ne_true)]
  | cons s xs ih =>
    intro f k hsg hf mf
    by_cases h : f.getD lo 0 = f.getD hi 0
    · exact hit (s :: xs) f k hf mf h
    · have hm : metB f = false := by
        cases q : metB f with
        | false => rfl
        | true => exact absurd ((meet_iff o hf mf).mp q) h
      have hs1 := hsg s List.mem_cons_self
      have e : drStep t (f, k) s = (thenM (t.maps.getD s []) f, k + 1) := by
        unfold drStep
        rw [if_neg (by rw [hm]; exact Bool.false_ne_true)]
      rw [loopB_go h, List.foldl_cons, e]
      exact ih _ _ (fun s' h' => hsg s' (List.mem_cons_of_mem _ h')) (isMap_then (t.isMap hs1) hf) (mono_then (t.isMap hs1) (mono_map hn hs1) mf)
theorem between_eq {t : Tn} {hs : List (List Nat)} {lo hi : Nat} (o : OrdOk t.many hs lo hi) (hn : notKeptM t hs = none) {xs : List Nat} (hsg : ∀ s ∈ xs, s < t.maps.length) : loopB t lo hi (idMap t.many) 0 xs = drawnM t xs :=
  between_drawn o hn xs (idMap t.many) 0 hsg (isMap_id _) (mono_id _ _)
end El

set_option Elab.async false
set_option linter.all false
set_option maxRecDepth 100000
set_option maxHeartbeats 4000000
namespace El
open PySem PySem.Spec L2
/-! ### what is below what -/
inductive Blw (ps : List (Nat × Nat)) : Nat → Nat → Prop
  | one {x y : Nat} : (x, y) ∈ ps → Blw ps x y
  | more {x y z : Nat} : (x, y) ∈ ps → Blw ps y z → Blw ps x z
theorem Blw.trans {ps : List (Nat × Nat)} {x y z : Nat} (h : Blw ps x y) (k : Blw ps y z) : Blw ps x z := by
  induction h with
  | one h => exact .more h k
  | more h _ ih => exact .more h (ih k)
theorem Blw.sub {ps qs : List (Nat × Nat)} {x y : Nat} (hs : ∀ a b, (a, b) ∈ ps → Blw qs a b) (h : Blw ps x y) : Blw qs x y := by
  induction h with
  | one h => exact hs _ _ h
  | more h _ ih => exact (hs _ _ h).trans ih
theorem Blw.lt {ps : List (Nat × Nat)} {n x y : Nat} (hp : ∀ p ∈ ps, p.1 < n ∧ p.2 < n) (h : Blw ps x y) : x < n ∧ y < n := by
  induction h with
  | one h => exact hp _ h
  | more h _ ih => exact ⟨(hp _ h).1, ih.2⟩
theorem Blw.rank {ps : List (Nat × Nat)} {x y : Nat} (f : Nat → Nat) (hp : ∀ p ∈ ps, f p.1 < f p.2) (h : Blw ps x y) : f x < f y := by
  induction h with
  | one h => exact hp _ h
  | more h _ ih => exact Nat.lt_trans (hp _ h) ih
def turnP (ps : List (Nat × Nat)) : List (Nat × Nat) := ps.map fun p => (p.2, p.1)
theorem turn_mem {ps : List (Nat × Nat)} {x y : Nat} : (x, y) ∈ turnP ps ↔ (y, x) ∈ ps := by
  unfold turnP
  rw [List.mem_map]
  constructor
  · rintro ⟨⟨a, b⟩, h, e⟩
    cases e
    exact h
  · intro h
    exact ⟨_, h, rfl⟩
theorem Blw.turn {ps : List (Nat × Nat)} {x y : Nat} (h : Blw ps x y) : Blw (turnP ps) y x := by
  induction h with
  | one h => exact .one (turn_mem.mpr h)
  | more h _ ih => exact ih.trans (.one (turn_mem.mpr h))
theorem turn_turn {ps : List (Nat × Nat)} : turnP (turnP ps) = ps := by
  unfold turnP
  rw [List.map_map]
  exact List.map_id _
theorem blw_turn {ps : List (Nat × Nat)} {x y : Nat} : Blw (turnP ps) x y ↔ Blw ps y x := ⟨fun h => by have := h.turn; rw [turn_turn] at this; exact this, Blw.turn⟩
theorem on_iff {n : Nat} {ps : List (Nat × Nat)} {x y : Nat} (hx : x < n) : y ∈ (onM n ps).getD x [] ↔ (x, y) ∈ ps := by
  rw [on_get hx, List.mem_map]
  constructor
  · rintro ⟨⟨a, b⟩, h, rfl⟩
    obtain ⟨h1, h2⟩ := List.mem_filter.mp h
    have : a = x := by simpa using h2
    subst this
    exact h1
  · intro h
    exact ⟨(x, y), List.mem_filter.mpr ⟨h, by simp⟩, rfl⟩
theorem dfs_sound {n : Nat} {ps : List (Nat × Nat)} (hp : ∀ p ∈ ps, p.1 < n ∧ p.2 < n) : ∀ (m : Nat) (w r : List Nat), (∀ a ∈ w, a < n) → ∀ y ∈ dfs (onM n ps) m w r, y ∈ r ∨ ∃ a ∈ w, a = y ∨ Blw ps a y
  | 0, w, r, _, y, h => .inl h
  | m + 1, w, r, hw, y, h => by
    rcases List.eq_nil_or_concat w with rfl | ⟨w', one, rfl⟩
    · rw [dfs_nil] at h; exact .inl h
    · rw [List.concat_eq_append] at hw h ⊢
      have ho : one < n := hw one (List.mem_append_right _ (List.mem_singleton_self _))
      by_cases h1 : one ∈ r
      · rw [dfs_old h1] at h
        rcases dfs_sound hp m w' r (fun a ha => hw a (List.mem_append_left _ ha)) y h with q | ⟨a, ha, q⟩
        · exact .inl q
        · exact .inr ⟨a, List.mem_append_left _ ha, q⟩
      · rw [dfs_new h1] at h
        rcases dfs_sound hp m _ _ (fun a ha => (List.mem_append.mp ha).elim (fun ha => hw a (List.mem_append_left _ ha)) fun ha => on_mem hp ha) y h with q | ⟨a, ha, q⟩
        · rcases List.mem_append.mp q with q | q
          · exact .inl q
          · have := List.mem_singleton.mp q
            subst this
            exact .inr ⟨_, List.mem_append_right _ (List.mem_singleton_self _), .inl rfl⟩
        · rcases List.mem_append.mp ha with ha | ha
          · exact .inr ⟨a, List.mem_append_left _ ha, q⟩
          · have hoa := (on_iff ho).mp ha
            refine .inr ⟨one, List.mem_append_right _ (List.mem_singleton_self _), .inr ?_⟩
            rcases q with rfl | q
            · exact .one hoa
            · exact .more hoa q
theorem dfs_full {n : Nat} {ps : List (Nat × Nat)} (hp : ∀ p ∈ ps, p.1 < n ∧ p.2 < n) : ∀ (m : Nat) (w r : List Nat), measM n ps.length w r ≤ m → r.Nodup → (∀ a ∈ r, a < n) → (∀ a ∈ w, a < n) → (∀ a ∈ r, ∀ b, (a, b) ∈ ps → b ∈ r ∨ b ∈ w) →
    (∀ a ∈ r, a ∈ dfs (onM n ps) m w r) ∧ (∀ a ∈ w, a ∈ dfs (onM n ps) m w r) ∧ (dfs (onM n ps) m w r).Nodup ∧ (∀ a ∈ dfs (onM n ps) m w r, a < n) ∧ ∀ a ∈ dfs (onM n ps) m w r, ∀ b, (a, b) ∈ ps → b ∈ dfs (onM n ps) m w r
  | m, w, r, hm, nd, hr, hw, hc => by
    rcases List.eq_nil_or_concat w with rfl | ⟨w', one, rfl⟩
    · rw [dfs_nil]
      exact ⟨fun _ h => h, fun _ h => (List.not_mem_nil h).elim, nd, hr, fun a ha b hb => (hc a ha b hb).elim id fun h => (List.not_mem_nil h).elim⟩
    · rw [List.concat_eq_append] at hm hw hc ⊢
      have ho : one < n := hw one (List.mem_append_right _ (List.mem_singleton_self _))
      cases m with
      | zero =>
        unfold measM at hm
        rw [List.length_append] at hm
        simp at hm
      | succ m =>
        by_cases h1 : one ∈ r
        · rw [dfs_old h1]
          have hm' : measM n ps.length w' r ≤ m := by
            have := meas_old (n := n) (L := ps.length) (w := w') (r := r) (one := one)
            omega
          obtain ⟨q1, q2, q3, q4, q5⟩ := dfs_full hp m w' r hm' nd hr (fun a ha => hw a (List.mem_append_left _ ha)) fun a ha b hb => by
            rcases hc a ha b hb with h | h
            · exact .inl h
            · rcases List.mem_append.mp h with h | h
              · exact .inr h
              · rw [List.mem_singleton.mp h]; exact .inl h1
          refine ⟨q1, fun a ha => ?_, q3, q4, q5⟩
          rcases List.mem_append.mp ha with h | h
          · exact q2 a h
          · rw [List.mem_singleton.mp h]; exact q1 one h1
        · rw [dfs_new h1]
          have nd' : (r ++ [one]).Nodup := by
            rw [List.nodup_append]
            exact ⟨nd, by simp, fun a ha b hb => by rw [List.mem_singleton.mp hb]; exact fun e => h1 (e ▸ ha)⟩
          have hr' : ∀ a ∈ r ++ [one], a < n := fun a ha => (List.mem_append.mp ha).elim (hr a) fun h => by rw [List.mem_singleton.mp h]; exact ho
          have hrl : r.length < n := by
            have := nodup_lt nd' hr'
            rw [List.length_append] at this
            exact this
          have hm' : measM n ps.length (w' ++ (onM n ps).getD one []) (r ++ [one]) ≤ m := by
            have := meas_new (n := n) (L := ps.length) (w := w') (r := r) (one := one) (more := (onM n ps).getD one []) on_le hrl
            omega
          obtain ⟨q1, q2, q3, q4, q5⟩ := dfs_full hp m _ _ hm' nd' hr' (fun a ha => (List.mem_append.mp ha).elim (fun ha => hw a (List.mem_append_left _ ha)) fun ha => on_mem hp ha) fun a ha b hb => by
            rcases List.mem_append.mp ha with ha | ha
            · rcases hc a ha b hb with h | h
              · exact .inl (List.mem_append_left _ h)
              · rcases List.mem_append.mp h with h | h
                · exact .inr (List.mem_append_left _ h)
                · exact .inl (List.mem_append_right _ h)
            · rw [List.mem_singleton.mp ha] at hb
              exact .inr (List.mem_append_right _ ((on_iff ho).mpr hb))
          refine ⟨fun a ha => q1 a (List.mem_append_left _ ha), fun a ha => ?_, q3, q4, q5⟩
          rcases List.mem_append.mp ha with h | h
          · exact q2 a (List.mem_append_left _ h)
          · exact q1 a (List.mem_append_right _ h)
/-- rows that tell a relation -/
structure OrdR (n : Nat) (hs : List (List Nat)) (B : Nat → Nat → Prop) : Prop where
  len : hs.length = n
  nd : ∀ x, x < n → (hs.getD x []).Nodup
  mem : ∀ x, x < n → ∀ y, y ∈ hs.getD x [] ↔ B x y
  lt : ∀ x, x < n → ∀ y, B x y → y < n
  tr : ∀ x y z, B x y → B y z → B x z
  irr : ∀ x, ¬ B x x
theorem above_rel {n : Nat} {ps : List (Nat × Nat)} (hp : ∀ p ∈ ps, p.1 < n ∧ p.2 < n) (hi : ∀ x, ¬ Blw ps x x) : OrdR n (aboveM n ps) (Blw ps) := by
  have full : ∀ x, x < n → _ := fun x hx => dfs_full hp (fuelM n ps) ((onM n ps).getD x []) [] (by
    unfold measM fuelM
    have := on_le (n := n) (ps := ps) (x := x)
    show (n - 0) * (ps.length + 1) + _ ≤ _
    rw [Nat.sub_zero]
    omega) List.nodup_nil (fun _ h => (List.not_mem_nil h).elim) (fun a ha => on_mem hp ha) fun _ h => (List.not_mem_nil h).elim
  have eg : ∀ x, x < n → (aboveM n ps).getD x [] = dfs (onM n ps) (fuelM n ps) ((onM n ps).getD x []) [] := fun x hx => by
    rw [List.getD_eq_getElem?_getD, above_get hx]
    rfl
  refine ⟨above_len, fun x hx => by rw [eg x hx]; exact (full x hx).2.2.1, fun x hx y => ?_, fun x hx y h => (h.lt hp).2, fun x y z => Blw.trans, hi⟩
  rw [eg x hx]
  obtain ⟨_, q2, _, _, q5⟩ := full x hx
  constructor
  · intro h
    rcases dfs_sound hp _ _ _ (fun a ha => on_mem hp ha) y h with q | ⟨a, ha, q⟩
    · exact (List.not_mem_nil q).elim
    · have hxa := (on_iff hx).mp ha
      rcases q with rfl | q
      · exact .one hxa
      · exact .more hxa q
  · intro h
    have go : ∀ {a y : Nat}, Blw ps a y → a ∈ dfs (onM n ps) (fuelM n ps) ((onM n ps).getD x []) [] → y ∈ dfs (onM n ps) (fuelM n ps) ((onM n ps).getD x []) [] := fun {a y} h => by
      induction h with
      | one h => exact fun ha => q5 _ ha _ h
      | more h _ ih => exact fun ha => ih (q5 _ ha _ h)
    cases h with
    | one h => exact q2 _ ((on_iff hx).mpr h)
    | more h k => exact go k (q2 _ ((on_iff hx).mpr h))
section
variable {n : Nat} {hs hs' : List (List Nat)} {B B' : Nat → Nat → Prop}
theorem OrdR.most (o : OrdR n hs B) {x y : Nat} (hx : x < n) : atMostM hs x y = true ↔ x = y ∨ B x y := by
  unfold atMostM
  rw [Bool.or_eq_true, decide_eq_true_iff, decide_eq_true_iff, o.mem x hx]
theorem bool_iff {a b : Bool} (h : a = true ↔ b = true) : a = b := by
  cases a <;> cases b <;> simp_all
/-- an order and the one turned about -/
theorem OrdR.turned (o : OrdR n hs B) (o' : OrdR n hs' fun x y => B y x) {x y : Nat} (hx : x < n) (hy : y < n) : atMostM hs' y x = atMostM hs x y :=
  bool_iff (by rw [o.most hx, o'.most hy]; exact ⟨fun h => h.imp Eq.symm id, fun h => h.imp Eq.symm id⟩)
theorem OrdR.same (o : OrdR n hs B) (o' : OrdR n hs' B) {x y : Nat} (hx : x < n) : atMostM hs' x y = atMostM hs x y :=
  bool_iff (by rw [o.most hx, o'.most hx])
theorem full_list {l : List Nat} {q : Nat} (nd : l.Nodup) (h : ∀ y ∈ l, y < n) (hl : l.length = n) (hq : q < n) : q ∈ l := by
  by_cases h1 : q ∈ l
  · exact h1
  · have := nodup_lt (n := n) (r := q :: l) (List.nodup_cons.mpr ⟨h1, nd⟩) fun y hy => by
      rcases List.mem_cons.mp hy with rfl | hy
      · exact hq
      · exact h y hy
    rw [List.length_cons] at this
    omega
theorem find_congr {p q : Nat → Bool} (h : ∀ x, x < n → p x = q x) : (List.range n).find? p = (List.range n).find? q := by
  have : ∀ l : List Nat, (∀ x ∈ l, x < n) → l.find? p = l.find? q := fun l => by
    induction l with
    | nil => exact fun _ => rfl
    | cons a l ih => exact fun hl => by rw [List.find?_cons, List.find?_cons, h a (hl a (List.mem_cons_self ..)), ih fun x hx => hl x (List.mem_cons_of_mem _ hx)]
  exact this _ fun x hx => List.mem_range.mp hx
theorem OrdR.least (o : OrdR n hs B) : leastM hs = (List.range n).find? fun p => (List.range n).all fun q => atMostM hs p q := by
  unfold leastM
  rw [o.len]
  refine find_congr fun p hp => bool_iff ?_
  have nd1 : (p :: hs.getD p []).Nodup := List.nodup_cons.mpr ⟨fun h => o.irr p ((o.mem p hp p).mp h), o.nd p hp⟩
  have lt1 : ∀ y ∈ p :: hs.getD p [], y < n := fun y hy => by
    rcases List.mem_cons.mp hy with rfl | hy
    · exact hp
    · exact o.lt p hp y ((o.mem p hp y).mp hy)
  have le := nodup_lt nd1 lt1
  rw [List.length_cons] at le
  rw [decide_eq_true_iff, List.all_eq_true]
  constructor
  · intro h q hq
    have := full_list nd1 lt1 (by rw [List.length_cons]; omega) (List.mem_range.mp hq)
    rw [o.most hp]
    rcases List.mem_cons.mp this with h | h
    · exact .inl h.symm
    · exact .inr ((o.mem p hp q).mp h)
  · intro h
    have := L2.nat_nodup_len (List.range n) (p :: hs.getD p []) List.nodup_range fun q hq => by
      rcases (o.most hp).mp (h q hq) with h | h
      · exact h ▸ List.mem_cons_self ..
      · exact List.mem_cons_of_mem _ ((o.mem p hp q).mpr h)
    rw [List.length_range, List.length_cons] at this
    omega
theorem OrdR.greatest (o : OrdR n hs B) : greatestM hs = (List.range n).find? fun p => (List.range n).all fun q => atMostM hs q p := by
  unfold greatestM
  rw [o.len]
theorem all_congr {p q : Nat → Bool} (h : ∀ x, x < n → p x = q x) : (List.range n).all p = (List.range n).all q := bool_iff (by
  rw [List.all_eq_true, List.all_eq_true]
  exact ⟨fun k x hx => by rw [← h x (List.mem_range.mp hx)]; exact k x hx, fun k x hx => by rw [h x (List.mem_range.mp hx)]; exact k x hx⟩)
theorem OrdR.least_turned (o : OrdR n hs B) (o' : OrdR n hs' fun x y => B y x) : leastM hs' = greatestM hs := by
  rw [o'.least, o.greatest]
  exact find_congr fun p hp => all_congr fun q hq => o.turned o' hq hp
theorem OrdR.greatest_turned (o : OrdR n hs B) (o' : OrdR n hs' fun x y => B y x) : greatestM hs' = leastM hs := by
  rw [o'.greatest, o.least]
  exact find_congr fun p hp => all_congr fun q hq => o.turned o' hp hq
theorem OrdR.least_same (o : OrdR n hs B) (o' : OrdR n hs' B) : leastM hs' = leastM hs := by
  rw [o'.least, o.least]
  exact find_congr fun p hp => all_congr fun q hq => o.same o' hp
theorem OrdR.greatest_same (o : OrdR n hs B) (o' : OrdR n hs' B) : greatestM hs' = greatestM hs := by
  rw [o'.greatest, o.greatest]
  exact find_congr fun p hp => all_congr fun q hq => o.same o' hq
theorem OrdR.row_len (o : OrdR n hs B) {x : Nat} (hx : x < n) : (hs.getD x []).length ≤ n := nodup_lt (o.nd x hx) fun y hy => o.lt x hx y ((o.mem x hx y).mp hy)
theorem OrdR.ok (o : OrdR n hs B) {lo hi : Nat} (hl : leastM hs = some lo) (hg : greatestM hs = some hi) : OrdOk n hs lo hi := by
  rw [o.least] at hl
  rw [o.greatest] at hg
  have l1 := List.find?_some hl
  have g1 := List.find?_some hg
  refine ⟨List.mem_range.mp (List.mem_of_find?_eq_some hl), List.mem_range.mp (List.mem_of_find?_eq_some hg), fun x hx => List.all_eq_true.mp l1 x (List.mem_range.mpr hx), fun x hx => List.all_eq_true.mp g1 x (List.mem_range.mpr hx), fun x y hx hy h k => ?_⟩
  rcases (o.most hx).mp h with h | h
  · exact h
  · rcases (o.most hy).mp k with k | k
    · exact k.symm
    · exact (o.irr x (o.tr x y x h k)).elim
/-! ### what isn't kept -/
def KeptS (t : Tn) (hs : List (List Nat)) (s : Nat) : Prop := ∀ x y, x < t.many → y < t.many → atMostM hs x y = true → atMostM hs ((t.maps.getD s []).getD x 0) ((t.maps.getD s []).getD y 0) = true
def badS (t : Tn) (hs : List (List Nat)) (s : Nat) : Bool := (trisS t.many hs s).any (badB t hs)
theorem bad_kept {t : Tn} (o : OrdR t.many hs B) {s : Nat} (h1 : s < t.maps.length) : badS t hs s = false ↔ KeptS t hs s := by
  unfold badS KeptS
  rw [List.any_eq_false]
  constructor
  · intro h x y hx hy hm
    rcases (o.most hx).mp hm with e | hb
    · subst e; exact atMost_refl _ _
    · have := h (s, x, y) (List.mem_flatten.mpr ⟨trisG hs s x, List.mem_map.mpr ⟨x, List.mem_range.mpr hx, rfl⟩, List.mem_map.mpr ⟨y, sort_mem.mpr ((o.mem x hx y).mpr hb), rfl⟩⟩)
      unfold badB at this
      simpa using this
  · rintro h p hp
    obtain ⟨l2, hl2, hm⟩ := List.mem_flatten.mp hp
    obtain ⟨x, hx, rfl⟩ := List.mem_map.mp hl2
    obtain ⟨y, hy, rfl⟩ := List.mem_map.mp hm
    have hx := List.mem_range.mp hx
    have hb := (o.mem x hx y).mp (sort_mem.mp hy)
    have := h x y hx (o.lt x hx y hb) ((o.most hx).mpr (.inr hb))
    rw [show badB t hs (s, x, y) = !true by unfold badB; rw [← this]]
    exact Bool.false_ne_true
theorem sgn_find {t : Tn} : (notKeptM t hs).map (·.1) = (List.range t.maps.length).find? (badS t hs) := by
  unfold notKeptM trisM
  have : ∀ l : List Nat, ((l.map (trisS t.many hs)).flatten.find? (badB t hs)).map (·.1) = l.find? (badS t hs) := fun l => by
    induction l with
    | nil => rfl
    | cons s l ih =>
      rw [List.map_cons, List.flatten_cons, List.find?_append, List.find?_cons]
      cases hq : (trisS t.many hs s).find? (badB t hs) with
      | none =>
        have : badS t hs s = false := by
          unfold badS
          rw [List.any_eq_false]
          exact fun x hx => by simpa using List.find?_eq_none.mp hq x hx
        rw [this]
        exact ih
      | some p =>
        have hb := List.find?_some hq
        have hm := List.mem_of_find?_eq_some hq
        have : badS t hs s = true := List.any_eq_true.mpr ⟨p, hm, hb⟩
        rw [this]
        obtain ⟨l2, hl2, hm⟩ := List.mem_flatten.mp hm
        obtain ⟨x, hx, rfl⟩ := List.mem_map.mp hl2
        obtain ⟨y, hy, rfl⟩ := List.mem_map.mp hm
        rfl
  exact this _
theorem map_val {t : Tn} {s x : Nat} (h1 : s < t.maps.length) (hx : x < t.many) : (t.maps.getD s []).getD x 0 < t.many := map_lt (t.isMap h1) hx
theorem OrdR.sgn_turned {t : Tn} (o : OrdR t.many hs B) (o' : OrdR t.many hs' fun x y => B y x) : (notKeptM t hs').map (·.1) = (notKeptM t hs).map (·.1) := by
  rw [sgn_find, sgn_find]
  refine find_congr fun s h1 => ?_
  have key : badS t hs' s = false ↔ badS t hs s = false := by
    rw [bad_kept o h1, bad_kept o' h1]
    unfold KeptS
    constructor
    · intro h x y hx hy hm
      rw [← o.turned o' (map_val h1 hx) (map_val h1 hy)]
      exact h y x hy hx (by rw [o.turned o' hx hy]; exact hm)
    · intro h x y hx hy hm
      rw [o.turned o' (map_val h1 hy) (map_val h1 hx)]
      exact h y x hy hx (by rw [← o.turned o' hy hx]; exact hm)
  cases h : badS t hs s with
  | true => cases k : badS t hs' s with
    | true => rfl
    | false => rw [key.mp k] at h; cases h
  | false => exact key.mpr h
theorem sort_same {a b : List Nat} (ha : a.Nodup) (hb : b.Nodup) (h : ∀ y, y ∈ a ↔ y ∈ b) : sortN a = sortN b := by
  have p : a.Perm b := (List.perm_ext_iff_of_nodup ha hb).mpr h
  exact sorted_eq (((sort_perm a).trans p).trans (sort_perm b).symm) (sort_sorted a) (sort_sorted b)
theorem OrdR.kept_same {t : Tn} (o : OrdR t.many hs B) (o' : OrdR t.many hs' B) : notKeptM t hs' = notKeptM t hs := by
  unfold notKeptM
  have e : trisM t hs' = trisM t hs := by
    unfold trisM trisS
    congr 1
    refine List.map_congr_left fun s _ => ?_
    congr 1
    refine List.map_congr_left fun x hx => ?_
    have hx := List.mem_range.mp hx
    unfold trisG
    rw [sort_same (o'.nd x hx) (o.nd x hx) fun y => by rw [o'.mem x hx, o.mem x hx]]
  rw [e]
  have : ∀ l : List (Nat × Nat × Nat), (∀ p ∈ l, p ∈ trisM t hs) → l.find? (badB t hs') = l.find? (badB t hs) := fun l => by
    induction l with
    | nil => exact fun _ => rfl
    | cons p l ih =>
      intro hl
      obtain ⟨l1, hl1, hm⟩ := List.mem_flatten.mp (hl p (List.mem_cons_self ..))
      obtain ⟨s, hs1, rfl⟩ := List.mem_map.mp hl1
      obtain ⟨l2, hl2, hm⟩ := List.mem_flatten.mp hm
      obtain ⟨x, hx, rfl⟩ := List.mem_map.mp hl2
      obtain ⟨y, hy, rfl⟩ := List.mem_map.mp hm
      have eb : badB t hs' (s, x, y) = badB t hs (s, x, y) := by
        unfold badB
        rw [o.same o' (map_val (List.mem_range.mp hs1) (List.mem_range.mp hx))]
      rw [List.find?_cons, List.find?_cons, eb, ih fun q hq => hl q (List.mem_cons_of_mem _ hq)]
  exact this _ fun _ h => h
/-- what is told: the draw, or the sign that isn't kept, or that an end is wanting -/
inductive Tld where
  | got : Option (Nat × Nat) → Tld
  | not : Nat → Tld
  | ends : Tld
  deriving DecidableEq
def tldM (t : Tn) (hs : List (List Nat)) (xs : List Nat) : Tld := match (notKeptM t hs).map (·.1) with
  | some s => .not s
  | none => match leastM hs, greatestM hs with
    | some lo, some hi => .got (loopB t lo hi (idMap t.many) 0 xs)
    | _, _ => .ends
theorem tld_drawn {t : Tn} (o : OrdR t.many hs B) {xs : List Nat} (hx : ∀ s ∈ xs, s < t.maps.length) : tldM t hs xs = match (notKeptM t hs).map (·.1) with
  | some s => .not s
  | none => if (leastM hs).isSome && (greatestM hs).isSome then .got (drawnM t xs) else .ends := by
  unfold tldM
  cases hn : notKeptM t hs with
  | some p => rfl
  | none =>
    show (match leastM hs, greatestM hs with
      | some lo, some hi => Tld.got (loopB t lo hi (idMap t.many) 0 xs)
      | _, _ => .ends) = if (leastM hs).isSome && (greatestM hs).isSome then .got (drawnM t xs) else .ends
    cases hl : leastM hs with
    | none => cases greatestM hs <;> rfl
    | some lo =>
      cases hg : greatestM hs with
      | none => rfl
      | some hi =>
        show Tld.got _ = Tld.got _
        rw [between_eq (o.ok hl hg) hn hx]
theorem OrdR.told_turned {t : Tn} (o : OrdR t.many hs B) (o' : OrdR t.many hs' fun x y => B y x) {xs : List Nat} (hx : ∀ s ∈ xs, s < t.maps.length) : tldM t hs' xs = tldM t hs xs := by
  rw [tld_drawn o hx, tld_drawn o' hx, o.sgn_turned o', o.least_turned o', o.greatest_turned o', Bool.and_comm]
theorem OrdR.told_same {t : Tn} (o : OrdR t.many hs B) (o' : OrdR t.many hs' B) {xs : List Nat} (hx : ∀ s ∈ xs, s < t.maps.length) : tldM t hs' xs = tldM t hs xs := by
  rw [tld_drawn o hx, tld_drawn o' hx, o.kept_same o', o.least_same o', o.greatest_same o']
end
end El

set_option Elab.async false
set_option linter.all false
set_option maxRecDepth 100000
set_option maxHeartbeats 4000000
namespace El
open PySem PySem.Spec L2
def setM (p s : Nat) (b : Bool) : Nat := p + (if b = true then 2 ^ s else 0) - (if upB p s = true then 2 ^ s else 0)
theorem ends_all : ((List.range 6).all fun n => (List.range (2 ^ n)).all fun x => subB n 0 x && subB n x (2 ^ n - 1)) = true := by decide +kernel
theorem anti_all : ((List.range 6).all fun n => (List.range (2 ^ n)).all fun x => (List.range (2 ^ n)).all fun y => !(subB n x y && subB n y x) || (x == y)) = true := by decide +kernel
def goodB (n : Nat) (hs : List (List Nat)) : Bool := (List.range (2 ^ n)).all fun x => ((hs.getD x []).all fun y => decide (y < 2 ^ n)) && decide ((hs.getD x []).length < 64)
theorem good1 : goodB 1 hs1 = true := by decide +kernel
theorem good2 : goodB 2 hs2 = true := by decide +kernel
theorem good3 : goodB 3 hs3 = true := by decide +kernel
theorem good4 : goodB 4 hs4 = true := by decide +kernel
theorem good5 : goodB 5 hs5 = true := by decide +kernel
theorem good_hs {n : Nat} (h0 : 1 ≤ n) (h1 : n ≤ 5) : goodB n (hsM n) = true := by
  match n, h0, h1 with
  | 1, _, _ => rw [hs1_eq]; exact good1
  | 2, _, _ => rw [hs2_eq]; exact good2
  | 3, _, _ => rw [hs3_eq]; exact good3
  | 4, _, _ => rw [hs4_eq]; exact good4
  | 5, _, _ => rw [hs5_eq]; exact good5
theorem goodK_hs {t : Tn} {n : Nat} (h0 : 1 ≤ n) (h1 : n ≤ 5) (ht : t.many = 2 ^ n) : GoodK t (hsM n) := by
  have h := good_hs h0 h1
  refine ⟨by rw [ht]; exact above_len, fun x hx y hy => ?_, fun x hx => ?_⟩
  · rw [ht] at hx ⊢
    have h2 := List.all_eq_true.mp h x (List.mem_range.mpr hx)
    exact of_decide_eq_true (List.all_eq_true.mp (Bool.and_eq_true_iff.mp h2).1 y hy)
  · rw [ht] at hx
    have h2 := List.all_eq_true.mp h x (List.mem_range.mpr hx)
    exact of_decide_eq_true (Bool.and_eq_true_iff.mp h2).2
theorem ord_hs {n : Nat} (h0 : 1 ≤ n) (h1 : n ≤ 5) : OrdOk (2 ^ n) (hsM n) 0 (2 ^ n - 1) := by
  have hp := Nat.two_pow_pos n
  have he := List.all_eq_true.mp ends_all n (List.mem_range.mpr (by omega))
  have ha := List.all_eq_true.mp anti_all n (List.mem_range.mpr (by omega))
  refine ⟨hp, by omega, fun x hx => ?_, fun x hx => ?_, fun x y hx hy hxy hyx => ?_⟩
  · rw [hs_sub h0 h1 hp hx]
    exact (Bool.and_eq_true_iff.mp (List.all_eq_true.mp he x (List.mem_range.mpr hx))).1
  · rw [hs_sub h0 h1 hx (by omega)]
    exact (Bool.and_eq_true_iff.mp (List.all_eq_true.mp he x (List.mem_range.mpr hx))).2
  · rw [hs_sub h0 h1 hx hy] at hxy
    rw [hs_sub h0 h1 hy hx] at hyx
    have := List.all_eq_true.mp (List.all_eq_true.mp ha x (List.mem_range.mpr hx)) y (List.mem_range.mpr hy)
    rw [hxy, hyx] at this
    exact beq_iff_eq.mp this
theorem set_mono : ((List.range 6).all fun n => (List.range n).all fun s => (List.range (2 ^ n)).all fun x => (List.range (2 ^ n)).all fun y => !subB n x y || (subB n (setM x s false) (setM y s false) && subB n (setM x s false) (setM y s true) && subB n (setM x s true) (setM y s true))) = true := by decide +kernel
theorem filter_mono {α : Type} {p q : α → Bool} : ∀ {l : List α}, (∀ x ∈ l, p x = true → q x = true) → (l.filter p).length ≤ (l.filter q).length
  | [], _ => Nat.le_refl _
  | a :: l, h => by
    have ih := filter_mono (p := p) (q := q) fun x hx => h x (List.mem_cons_of_mem a hx)
    rw [List.filter_cons, List.filter_cons]
    by_cases hp : p a = true
    · rw [if_pos hp, if_pos (h a List.mem_cons_self hp), List.length_cons, List.length_cons]
      omega
    · rw [if_neg hp]
      split
      · rw [List.length_cons]; omega
      · exact ih
theorem sub_up {n x y : Nat} (h : subB n x y = true) {o : Nat} (ho : o < n) (hx : upB x o = true) : upB y o = true := by
  have := List.all_eq_true.mp h o (List.mem_range.mpr ho)
  rw [hx] at this
  simpa using this
theorem stand_mono {W : Wb} (hl : W.levels.Pairwise (· ≤ ·)) {x y s k : Nat} (hs : s < W.spots) (h : subB W.spots x y = true) (hk : standB W x s k = true) : standB W y s k = true := by
  unfold standB at hk ⊢
  have hk := of_decide_eq_true hk
  have hc : countM W.ties x s ≤ countM W.ties y s := filter_mono fun o ho hx => sub_up h (tied_mem ho).1 hx
  have c1 := count_lt (W := W) (p := x) hs
  have c2 := count_lt (W := W) (p := y) hs
  have h6 := W.h6
  have hle : W.levels.getD (countM W.ties x s) 0 ≤ W.levels.getD (countM W.ties y s) 0 := by
    have l1 : countM W.ties x s < W.levels.length := by omega
    have l2 : countM W.ties y s < W.levels.length := by omega
    rw [List.getD_eq_getElem?_getD, List.getD_eq_getElem?_getD, List.getElem?_eq_getElem l1, List.getElem?_eq_getElem l2]
    show W.levels[countM W.ties x s] ≤ W.levels[countM W.ties y s]
    by_cases e : countM W.ties x s = countM W.ties y s
    · have : W.levels[countM W.ties x s] = W.levels[countM W.ties y s] := by congr 1
      omega
    · exact (List.pairwise_iff_getElem.mp hl) _ _ l1 l2 (by omega)
  exact decide_eq_true (by omega)
theorem moved_mono {W : Wb} (hl : W.levels.Pairwise (· ≤ ·)) {x y s k : Nat} (hs : s < W.spots) (hx : x < 2 ^ W.spots) (hy : y < 2 ^ W.spots) (h : subB W.spots x y = true) : subB W.spots (movedM W x s k) (movedM W y s k) = true := by
  have h1 := W.h1
  have a := List.all_eq_true.mp (List.all_eq_true.mp (List.all_eq_true.mp (List.all_eq_true.mp set_mono W.spots (List.mem_range.mpr (by omega))) s (List.mem_range.mpr hs)) x (List.mem_range.mpr hx)) y (List.mem_range.mpr hy)
  rw [h] at a
  have a2 : (subB W.spots (setM x s false) (setM y s false) && subB W.spots (setM x s false) (setM y s true) && subB W.spots (setM x s true) (setM y s true)) = true := by simpa using a
  rw [Bool.and_eq_true, Bool.and_eq_true] at a2
  obtain ⟨⟨b1, b2⟩, b3⟩ := a2
  have sm := stand_mono hl (k := k) hs h
  show subB W.spots (setM x s (standB W x s k)) (setM y s (standB W y s k)) = true
  cases q1 : standB W x s k with
  | true => rw [sm q1]; exact b3
  | false =>
    cases q2 : standB W y s k with
    | true => exact b2
    | false => exact b1
theorem kept_web {W : Wb} (hl : W.levels.Pairwise (· ≤ ·)) : notKeptM (turnsM W) (hsM W.spots) = none := by
  have w0 := W.h0
  have w1 := W.h1
  cases q : notKeptM (turnsM W) (hsM W.spots) with
  | none => rfl
  | some p =>
    obtain ⟨s, x, y⟩ := p
    obtain ⟨h1, h2, h3, h4⟩ := not_some q
    have hx : x < 2 ^ W.spots := h2
    have gk := goodK_hs (t := turnsM W) w0 w1 rfl
    have hy : y < 2 ^ W.spots := gk.2.1 x h2 y h3
    have hsub : subB W.spots x y = true := by
      rw [← hs_sub w0 w1 hx hy]
      unfold atMostM
      rw [decide_eq_true h3, Bool.or_true]
    have hm : (turnsM W).maps.getD s [] ∈ turnsML W := by
      have := getD_at (xs := (turnsM W).maps) (d := []) h1
      exact List.mem_of_getElem? this
    unfold turnsML at hm
    obtain ⟨l, hl1, hm⟩ := List.mem_flatten.mp hm
    obtain ⟨sp, hsp, rfl⟩ := List.mem_map.mp hl1
    obtain ⟨k, hk, e⟩ := List.mem_map.mp hm
    have hsp := List.mem_range.mp hsp
    have eg : ∀ z, z < 2 ^ W.spots → ((turnsM W).maps.getD s []).getD z 0 = movedM W z sp k := fun z hz => by
      rw [← e, List.getD_eq_getElem?_getD, List.getElem?_map, List.getElem?_range hz]
      rfl
    rw [eg x hx, eg y hy, hs_sub w0 w1 (moved_lt hx hsp) (moved_lt hy hsp), moved_mono hl hsp hx hy hsub] at h4
    cases h4
end El

set_option Elab.async false
set_option linter.all false
set_option maxRecDepth 100000
set_option maxHeartbeats 4000000
namespace El
open PySem PySem.Spec L2
section
variable {K : PySem.W.Frag} {σ : St} {F H F' H' : Hp} {ta tb tc td te : TE} {α β γ δ : Type} {R : Rp α} {S : Rp β} {T : Rp γ} {U : Rp δ} {D : Ends} {E : XK}
/-- x, y = e -/
theorem x_pair {i j : Nat} {p : α × β} (e : Ex F H) (h : Ev (rPr R S) te σ F H p)
    (k : ∀ v w F' H', Gr M0 F H F' H' → R F' v p.1 → S F' w p.2 → D.nx ((σ.set i (some v)).set j (some w)) H') : tAsg te (gTup K 2 (gCons (gName i) (gCons (gName j) gNil))) D σ H :=
  h F H (.refl e) _ fun v F' H' g ⟨b, u, w, eb, hb, r1, r2⟩ => by
    subst eb
    exact ⟨b, [u, w], rfl, SqT.of (g.fh _ _ hb), rfl, u, [w], rfl, w, [], rfl, rfl, k u w F' H' g r1 r2⟩
/-- x, y, z = e -/
theorem x_tri {i j l : Nat} {p : α × β × γ} (e : Ex F H) (h : Ev (r3 R S T) te σ F H p)
    (k : ∀ v w u F' H', Gr M0 F H F' H' → R F' v p.1 → S F' w p.2.1 → T F' u p.2.2 → D.nx (((σ.set i (some v)).set j (some w)).set l (some u)) H') : tAsg te (gTup K 3 (gCons (gName i) (gCons (gName j) (gCons (gName l) gNil)))) D σ H :=
  h F H (.refl e) _ fun v F' H' g ⟨b, u, w, z, eb, hb, r1, r2, r3⟩ => by
    subst eb
    exact ⟨b, [u, w, z], rfl, SqT.of (g.fh _ _ hb), rfl, u, [w, z], rfl, w, [z], rfl, z, [], rfl, rfl, k u w z F' H' g r1 r2 r3⟩
theorem x_quad {i j l m : Nat} {p : α × β × γ × δ} (e : Ex F H) (h : Ev (r4 R S T U) te σ F H p)
    (k : ∀ v w u z F' H', Gr M0 F H F' H' → R F' v p.1 → S F' w p.2.1 → T F' u p.2.2.1 → U F' z p.2.2.2 → D.nx ((((σ.set i (some v)).set j (some w)).set l (some u)).set m (some z)) H') : tAsg te (gTup K 4 (gCons (gName i) (gCons (gName j) (gCons (gName l) (gCons (gName m) gNil))))) D σ H :=
  h F H (.refl e) _ fun v F' H' g ⟨b, u, w, z, y, eb, hb, r1, r2, r3, r4⟩ => by
    subst eb
    exact ⟨b, [u, w, z, y], rfl, SqT.of (g.fh _ _ hb), rfl, u, [w, z, y], rfl, w, [z, y], rfl, z, [y], rfl, y, [], rfl, rfl, k u w z y F' H' g r1 r2 r3 r4⟩
theorem ev_told1 {o : Option (Nat × Nat)} (h : Ev (rOpt (rPr rNat rNat)) ta σ F H o) : Ev rTold (tTup (tCons (tC (.str "told")) (tCons ta tNil))) σ F H (.inl o) := fun F1 H1 g1 Q q =>
  h F1 H1 g1 _ fun v F2 H2 g2 r => ⟨by show 2 ≤ sizeLine; decide, fun B hB => by
    have g3 : Gr M0 F2 H2 (upd F2 B (.tup [.str ("told" : Str), v])) (upd H2 B (.tup [.str ("told" : Str), v])) := .new g2.fh hB
    exact q _ _ _ (g2.trans g3) ⟨B, v, rfl, upd_same, Mn.mono g3.ff r⟩⟩
theorem ev_told2 {p : Nat × Nat × Nat} (h : Ev (r3 rNat rNat rNat) ta σ F H p) : Ev rTold (tTup (tCons (tC (.str "not kept")) (tCons ta tNil))) σ F H (.inr p) := fun F1 H1 g1 Q q =>
  h F1 H1 g1 _ fun v F2 H2 g2 r => ⟨by show 2 ≤ sizeLine; decide, fun B hB => by
    have g3 : Gr M0 F2 H2 (upd F2 B (.tup [.str ("not kept" : Str), v])) (upd H2 B (.tup [.str ("not kept" : Str), v])) := .new g2.fh hB
    exact q _ _ _ (g2.trans g3) ⟨B, v, rfl, upd_same, Mn.mono g3.ff r⟩⟩
end
/-- `except C` names errors of C's own class -/
theorem exm_self {K : PySem.W.Frag} {C : Addr} (xec : PySem.W.subIn K (.ref C) (.type "BaseException") = some true) (xic : PySem.W.isClsIn K C = true) (xty : PySem.W.typeIn K (.ref C) = some (.type "type")) (xsc : PySem.W.subIn K (.ref C) (.ref C) = some true) :
    PySem.W.exmOne K (.ref C) (.ref C) = some true := by
  have xic2 : (PySem.W.clsIn K C).isSome = true := xic
  unfold PySem.W.exmOne PySem.W.kitCls
  simp [xec, xic2, xty, xsc]
end El

set_option linter.all false
set_option maxRecDepth 100000
set_option maxHeartbeats 2000000
namespace El
/-! ### sums and determinants of whole numbers -/
def sumN : Nat → (Nat → Int) → Int
  | 0, _ => 0
  | n + 1, f => sumN n f + f n
theorem sumN_congr {f g : Nat → Int} : ∀ {n : Nat}, (∀ i, i < n → f i = g i) → sumN n f = sumN n g
  | 0, _ => rfl
  | n + 1, h => by
    show sumN n f + f n = sumN n g + g n
    rw [sumN_congr fun i hi => h i (by omega), h n (by omega)]
theorem sumN_zero {f : Nat → Int} : ∀ {n : Nat}, (∀ i, i < n → f i = 0) → sumN n f = 0
  | 0, _ => rfl
  | n + 1, h => by
    show sumN n f + f n = 0
    rw [sumN_zero fun i hi => h i (by omega), h n (by omega)]
    rfl
theorem sumN_add (f g : Nat → Int) : ∀ n, sumN n (fun i => f i + g i) = sumN n f + sumN n g
  | 0 => rfl
  | n + 1 => by
    show sumN n _ + (f n + g n) = (sumN n f + f n) + (sumN n g + g n)
    rw [sumN_add f g n]
    omega
theorem sumN_mul (a : Int) (f : Nat → Int) : ∀ n, sumN n (fun i => a * f i) = a * sumN n f
  | 0 => by show (0 : Int) = a * 0; rw [Int.mul_zero]
  | n + 1 => by
    show sumN n _ + _ = a * (sumN n f + f n)
    rw [sumN_mul a f n, Int.mul_add]
theorem sumN_one {f : Nat → Int} {n k : Nat} (hk : k < n) (h : ∀ i, i < n → i ≠ k → f i = 0) : sumN n f = f k := by
  induction n with
  | zero => omega
  | succ n ih =>
    show sumN n f + f n = f k
    by_cases e : k = n
    · rw [e, sumN_zero fun i hi => h i (by omega) (by omega), Int.zero_add]
    · rw [ih (by omega) fun i hi hne => h i (by omega) hne, h n (by omega) (fun z => e z.symm), Int.add_zero]
theorem sumN_two {f : Nat → Int} {n k l : Nat} (hk : k < n) (hl : l < n) (hkl : k ≠ l) (h : ∀ i, i < n → i ≠ k → i ≠ l → f i = 0) : sumN n f = f k + f l := by
  have e : sumN n f = sumN n (fun i => (if i = k then f i else 0) + (if i = k then 0 else f i)) := sumN_congr fun i _ => by split <;> omega
  rw [e, sumN_add, sumN_one hk (fun i _ hne => if_neg hne), sumN_one hl (fun i hi hne => by
    show (if i = k then 0 else f i) = 0
    split
    · rfl
    · rename_i z; exact h i hi z hne), if_pos rfl, if_neg (fun z => hkl z.symm)]
theorem sumN_comm (f : Nat → Nat → Int) : ∀ m n, sumN m (fun i => sumN n (fun j => f i j)) = sumN n (fun j => sumN m (fun i => f i j))
  | 0, n => (sumN_zero fun _ _ => rfl).symm
  | m + 1, n => by
    show sumN m _ + sumN n _ = sumN n (fun j => sumN m (fun i => f i j) + f m j)
    rw [sumN_add, sumN_comm f m n]
/-- antisymmetric double sums -/
theorem sumN_anti {T : Nat → Nat → Int} : ∀ {n : Nat}, (∀ i j, i ≤ j → j < n → T i j + T (j + 1) i = 0) → sumN (n + 1) (fun i => sumN n (fun j => T i j)) = 0
  | 0, _ => rfl
  | n + 1, h => by
    have ih := sumN_anti (n := n) (T := T) fun i j hij hj => h i j hij (by omega)
    show sumN (n + 1) (fun i => sumN n (fun j => T i j) + T i n) + (sumN (n + 1) fun j => T (n + 1) j) = 0
    rw [sumN_add, ih, Int.zero_add, ← sumN_add]
    exact sumN_zero fun i hi => h i n (by omega) (by omega)
def skip (i k : Nat) : Nat := if k < i then k else k + 1
def sgn (i : Nat) : Int := if i % 2 = 0 then 1 else -1
theorem sgn_succ (i : Nat) : sgn (i + 1) = -sgn i := by
  unfold sgn
  by_cases h : i % 2 = 0
  · rw [if_pos h, if_neg (by omega)]
  · rw [if_neg h, if_pos (by omega)]; rfl
theorem skip_lt {n i k : Nat} (h : k < n) : skip i k < n + 1 := by
  unfold skip
  split <;> omega
/-- a matrix by its columns -/
abbrev Mx := Nat → Nat → Int
def cu (m : Mx) (p : Nat) (u : Nat → Int) : Mx := fun j => if j = p then u else m j
theorem cu_same {m : Mx} {p : Nat} {u : Nat → Int} : cu m p u p = u := if_pos rfl
theorem cu_ne {m : Mx} {p j : Nat} {u : Nat → Int} (h : j ≠ p) : cu m p u j = m j := if_neg h
def minor (m : Mx) (i : Nat) : Mx := fun j k => m (j + 1) (skip i k)
def det : Nat → Mx → Int
  | 0, _ => 1
  | n + 1, m => sumN (n + 1) fun i => sgn i * m 0 i * det n (minor m i)
theorem det_congr : ∀ {n : Nat} {m m' : Mx}, (∀ j i, j < n → i < n → m j i = m' j i) → det n m = det n m'
  | 0, _, _, _ => rfl
  | n + 1, m, m', h => sumN_congr fun i hi => by
    rw [h 0 i (by omega) hi, det_congr (m := minor m i) (m' := minor m' i) fun j k hj hk => h (j + 1) (skip i k) (by omega) (skip_lt hk)]
theorem det_lin : ∀ {n : Nat} {m : Mx} {p : Nat} (a b : Int) (u v : Nat → Int), p < n → det n (cu m p fun i => a * u i + b * v i) = a * det n (cu m p u) + b * det n (cu m p v)
  | 0, _, _, _, _, _, _, h => absurd h (Nat.not_lt_zero _)
  | n + 1, m, 0, a, b, u, v, _ => by
    have e : ∀ (w : Nat → Int) (i : Nat), minor (cu m 0 w) i = minor m i := fun w i => by funext j k; rfl
    show sumN (n + 1) _ = a * sumN (n + 1) _ + b * sumN (n + 1) _
    rw [← sumN_mul, ← sumN_mul, ← sumN_add]
    refine sumN_congr fun i _ => ?_
    rw [e, e, e, cu_same, cu_same, cu_same]
    show sgn i * (a * u i + b * v i) * _ = a * (sgn i * u i * _) + b * (sgn i * v i * _)
    grind
  | n + 1, m, p + 1, a, b, u, v, h => by
    have e : ∀ (w : Nat → Int) (i : Nat), minor (cu m (p + 1) w) i = cu (minor m i) p (fun k => w (skip i k)) := fun w i => by
      funext j k
      show (if j + 1 = p + 1 then w else m (j + 1)) (skip i k) = (if j = p then (fun k => w (skip i k)) else minor m i j) k
      by_cases z : j = p
      · rw [if_pos z, if_pos (by omega)]
      · rw [if_neg z, if_neg (by omega)]; rfl
    show sumN (n + 1) _ = a * sumN (n + 1) _ + b * sumN (n + 1) _
    rw [← sumN_mul, ← sumN_mul, ← sumN_add]
    refine sumN_congr fun i _ => ?_
    rw [e, e, e, cu_ne (by omega), cu_ne (by omega), cu_ne (by omega)]
    have := det_lin (n := n) (m := minor m i) (p := p) a b (fun k => u (skip i k)) (fun k => v (skip i k)) (by omega)
    rw [this]
    grind
theorem skip_skip {i j k : Nat} (h : i ≤ j) : skip i (skip j k) = skip (j + 1) (skip i k) := by
  unfold skip
  by_cases h1 : k < i
  · rw [if_pos (show k < j by omega), if_pos h1, if_pos (show k < j + 1 by omega)]
  · by_cases h2 : k < j
    · rw [if_pos h2, if_neg h1, if_pos (show k + 1 < j + 1 by omega)]
    · rw [if_neg h2, if_neg (show ¬ k + 1 < i by omega), if_neg h1, if_neg (show ¬ k + 1 < j + 1 by omega)]
def Alt (n : Nat) : Prop := ∀ (m : Mx) (p q : Nat), p < q → q < n → (∀ i, i < n → m p i = m q i) → det n m = 0
theorem cu_self {m : Mx} {p : Nat} : cu m p (m p) = m := by
  funext j
  by_cases h : j = p
  · rw [h, cu_same]
  · rw [cu_ne h]
theorem cu_cu {m : Mx} {p : Nat} {u v : Nat → Int} : cu (cu m p u) p v = cu m p v := by
  funext j
  by_cases h : j = p
  · rw [h, cu_same, cu_same]
  · rw [cu_ne h, cu_ne h, cu_ne h]
theorem cu_comm {m : Mx} {p q : Nat} {u v : Nat → Int} (h : p ≠ q) : cu (cu m p u) q v = cu (cu m q v) p u := by
  funext j
  by_cases h1 : j = p
  · rw [h1, cu_same, cu_ne h, cu_same]
  · by_cases h2 : j = q
    · rw [h2, cu_same, cu_ne (fun z => h z.symm), cu_same]
    · rw [cu_ne h2, cu_ne h1, cu_ne h1, cu_ne h2]
/-- exchanged columns -/
theorem det_swap {n : Nat} (al : Alt n) {m : Mx} {p q : Nat} (hp : p < n) (hq : q < n) (h : p ≠ q) (u v : Nat → Int) : det n (cu (cu m p u) q v) = -det n (cu (cu m p v) q u) := by
  have al' : ∀ w, det n (cu (cu m p w) q w) = 0 := fun w => by
    rcases Nat.lt_or_gt_of_ne h with z | z
    · exact al _ p q z hq fun i _ => by rw [cu_same, cu_ne h, cu_same]
    · exact al _ q p z hp fun i _ => by rw [cu_same, cu_ne h, cu_same]
  have e1 : ∀ a b w, det n (cu (cu m p fun i => a * u i + b * v i) q w) = a * det n (cu (cu m p u) q w) + b * det n (cu (cu m p v) q w) := fun a b w => by
    rw [cu_comm h, cu_comm h, cu_comm h]
    exact det_lin a b u v hp
  have s := al' fun i => 1 * u i + 1 * v i
  rw [det_lin 1 1 u v hq, e1 1 1 u, e1 1 1 v, al' u, al' v] at s
  omega
theorem alt_all : ∀ n, Alt n
  | 0 => fun _ _ _ _ h => absurd h (Nat.not_lt_zero _)
  | 1 => fun _ _ _ h1 h2 => by omega
  | n + 2 => by
    have ih := alt_all (n + 1)
    -- the first two columns
    have two : ∀ m : Mx, (∀ i, i < n + 2 → m 0 i = m 1 i) → det (n + 2) m = 0 := fun m he => by
      show sumN (n + 2) (fun i => sgn i * m 0 i * sumN (n + 1) (fun j => sgn j * m 1 (skip i j) * det n (minor (minor m i) j))) = 0
      have e : sumN (n + 2) (fun i => sgn i * m 0 i * sumN (n + 1) (fun j => sgn j * m 1 (skip i j) * det n (minor (minor m i) j))) = sumN (n + 2) (fun i => sumN (n + 1) (fun j => sgn i * m 0 i * (sgn j * m 1 (skip i j) * det n (minor (minor m i) j)))) :=
        sumN_congr fun i _ => (sumN_mul _ _ _).symm
      rw [e]
      refine sumN_anti fun i j hij hj => ?_
      have e1 : skip i j = j + 1 := by unfold skip; rw [if_neg (by omega)]
      have e2 : skip (j + 1) i = i := by unfold skip; rw [if_pos (by omega)]
      have e3 : minor (minor m i) j = minor (minor m (j + 1)) i := by
        funext a b
        show m (a + 1 + 1) (skip i (skip j b)) = m (a + 1 + 1) (skip (j + 1) (skip i b))
        rw [skip_skip hij]
      rw [e1, e2, e3, sgn_succ, he i (by omega), he (j + 1) (by omega)]
      grind
    intro m p q hpq hq he
    cases p with
    | succ p =>
      obtain ⟨q, rfl⟩ : ∃ q', q = q' + 1 := ⟨q - 1, by omega⟩
      exact sumN_zero fun i hi => by
        rw [ih (minor m i) p q (by omega) (by omega) fun k hk => he (skip i k) (skip_lt hk), Int.mul_zero]
    | zero =>
      by_cases h1 : q = 1
      · subst h1; exact two m he
      · -- exchange columns 1 and q
        let m' : Mx := cu (cu m 1 (m q)) q (m 1)
        have h0 : det (n + 2) m' = 0 := two m' fun i hi => by
          show cu (cu m 1 (m q)) q (m 1) 0 i = cu (cu m 1 (m q)) q (m 1) 1 i
          rw [cu_ne (by omega), cu_ne (by omega), cu_ne (fun z => h1 z.symm), cu_same]
          exact he i hi
        have hneg : det (n + 2) m' = -det (n + 2) m := by
          show sumN (n + 2) _ = -sumN (n + 2) _
          have : ∀ i, minor m' i = cu (cu (minor m i) 0 (minor m i (q - 1))) (q - 1) (minor m i 0) := fun i => by
            funext j k
            show cu (cu m 1 (m q)) q (m 1) (j + 1) (skip i k) = _
            by_cases z1 : j = q - 1
            · rw [z1, cu_same, show q - 1 + 1 = q by omega, cu_same]; rfl
            · rw [cu_ne (show j + 1 ≠ q by omega), cu_ne z1]
              by_cases z2 : j = 0
              · rw [z2, cu_same]
                show cu m 1 (m q) 1 (skip i k) = m (q - 1 + 1) (skip i k)
                rw [cu_same, show q - 1 + 1 = q by omega]
              · rw [cu_ne z2, cu_ne (show j + 1 ≠ 1 by omega)]; rfl
          rw [← Int.neg_one_mul, ← sumN_mul]
          refine sumN_congr fun i hi => ?_
          rw [this, det_swap ih (by omega) (by omega) (by omega), show m' 0 = m 0 from by
            show cu (cu m 1 (m q)) q (m 1) 0 = _
            rw [cu_ne (by omega), cu_ne (by omega)]]
          rw [show cu (cu (minor m i) 0 (minor m i 0)) (q - 1) (minor m i (q - 1)) = minor m i by rw [cu_self, cu_self]]
          grind
        omega
theorem det_id : ∀ n, det n (fun j i => if i = j then 1 else 0) = 1
  | 0 => rfl
  | n + 1 => by
    show sumN (n + 1) _ = 1
    rw [sumN_one (k := 0) (by omega) fun i _ hi => by
      show sgn i * (if i = 0 then 1 else 0) * _ = 0
      rw [if_neg hi, Int.mul_zero, Int.zero_mul]]
    show sgn 0 * (if 0 = 0 then 1 else 0) * _ = 1
    rw [if_pos rfl]
    have : minor (fun j i => if i = j then (1 : Int) else 0) 0 = fun j i => if i = j then 1 else 0 := by
      funext j k
      show (if skip 0 k = j + 1 then (1 : Int) else 0) = _
      have : skip 0 k = k + 1 := by unfold skip; rw [if_neg (by omega)]
      rw [this]
      by_cases h : k = j
      · rw [if_pos h, if_pos (by omega)]
      · rw [if_neg h, if_neg (by omega)]
    rw [this, det_id n]
    rfl
theorem det_sum {n : Nat} {m : Mx} {p : Nat} (hp : p < n) (r : Nat → Int) (c : Nat → Nat → Int) : ∀ k, det n (cu m p fun i => sumN k fun t => r t * c t i) = sumN k fun t => r t * det n (cu m p (c t))
  | 0 => by
    have : det n (cu m p fun i => 0 * m p i + 0 * m p i) = 0 := by rw [det_lin 0 0 _ _ hp]; omega
    show det n (cu m p fun i => 0) = 0
    rw [← this]
    exact det_congr fun j i _ _ => by
      by_cases h : j = p
      · rw [h, cu_same, cu_same]; omega
      · rw [cu_ne h, cu_ne h]
  | k + 1 => by
    show det n (cu m p fun i => (sumN k fun t => r t * c t i) + r k * c k i) = (sumN k fun t => r t * det n (cu m p (c t))) + r k * det n (cu m p (c k))
    rw [← det_sum hp r c k]
    have := det_lin (m := m) 1 (r k) (fun i => sumN k fun t => r t * c t i) (c k) hp
    rw [Int.one_mul] at this
    rw [← this]
    exact det_congr fun j i _ _ => by
      by_cases h : j = p
      · rw [h, cu_same, cu_same, Int.one_mul]
      · rw [cu_ne h, cu_ne h]
theorem sumN_abs {f : Nat → Int} {B : Nat} : ∀ {n : Nat}, (∀ i, i < n → (f i).natAbs ≤ B) → (sumN n f).natAbs ≤ n * B
  | 0, _ => Nat.zero_le _
  | n + 1, h => by
    have := sumN_abs (n := n) fun i hi => h i (by omega)
    have h2 := h n (by omega)
    show (sumN n f + f n).natAbs ≤ _
    rw [Nat.succ_mul]
    omega
theorem det_abs {M : Nat} : ∀ {n : Nat} {m : Mx}, (∀ j i, j < n → i < n → (m j i).natAbs ≤ M) → (det n m).natAbs ≤ n ^ n * M ^ n
  | 0, _, _ => by show (1 : Int).natAbs ≤ 1; decide
  | n + 1, m, h => by
    have hs : ∀ i, i < n + 1 → (sgn i * m 0 i * det n (minor m i)).natAbs ≤ M * ((n + 1) ^ n * M ^ n) := fun i hi => by
      rw [Int.natAbs_mul, Int.natAbs_mul]
      have h1 : (sgn i).natAbs = 1 := by unfold sgn; split <;> rfl
      have h2 := h 0 i (by omega) hi
      have h3 := det_abs (n := n) (m := minor m i) fun j k hj hk => h (j + 1) (skip i k) (by omega) (skip_lt hk)
      have h4 : n ^ n * M ^ n ≤ (n + 1) ^ n * M ^ n := Nat.mul_le_mul_right _ (Nat.pow_le_pow_left (by omega) n)
      rw [h1, Nat.one_mul]
      exact Nat.mul_le_mul h2 (Nat.le_trans h3 h4)
    have := sumN_abs hs
    show (sumN (n + 1) _).natAbs ≤ _
    refine Nat.le_trans this (Nat.le_of_eq ?_)
    rw [Nat.pow_succ, Nat.pow_succ]
    grind
/-! ### fraction-free elimination -/
def eN (l : Nat) : Nat → Int := fun i => if i = l then 1 else 0
def bB (A : Mx) (k : Nat) : Mx := fun l => if l < k then A l else eN l
def Rk (n : Nat) (A : Mx) (k : Nat) (j l : Nat) : Int := det n (cu (bB A k) l (A j))
def dk (n : Nat) (A : Mx) (k : Nat) : Int := det n (bB A k)
theorem dk_zero {n : Nat} {A : Mx} : dk n A 0 = 1 := by
  rw [← det_id n]
  exact det_congr fun j i _ _ => by
    show (if j < 0 then A j else eN j) i = _
    rw [if_neg (Nat.not_lt_zero j)]
    rfl
theorem e_sum {n l : Nat} (hl : l < n) (u : Nat → Int) : ∀ i, i < n → u i = sumN n fun t => u t * eN t i := fun i hi => by
  rw [sumN_one hi fun t _ ht => by
    show u t * (if i = t then 1 else 0) = 0
    rw [if_neg (fun z => ht z.symm), Int.mul_zero]]
  show u i = u i * (if i = i then 1 else 0)
  rw [if_pos rfl, Int.mul_one]
/-- a unit matrix with one column exchanged -/
theorem det_e {n l : Nat} (hl : l < n) (u : Nat → Int) : det n (cu (fun j => eN j) l u) = u l := by
  have e : det n (cu (fun j => eN j) l u) = det n (cu (fun j => eN j) l fun i => sumN n fun t => u t * eN t i) := det_congr fun j i _ hi => by
    by_cases h : j = l
    · rw [h, cu_same, cu_same]; exact e_sum hl u i hi
    · rw [cu_ne h, cu_ne h]
  rw [e, det_sum hl u (fun t => eN t) n, sumN_one hl fun t ht hne => ?_]
  · rw [show cu (fun j => eN j) l (eN l) = fun j => eN j from cu_self (m := fun j => eN j) (p := l)]
    have := det_id n
    rw [show det n (fun j => eN j) = 1 from this, Int.mul_one]
  · rcases Nat.lt_or_gt_of_ne hne with z | z
    · rw [alt_all n _ t l z hl fun i _ => by rw [cu_same, cu_ne hne], Int.mul_zero]
    · rw [alt_all n _ l t z ht fun i _ => by rw [cu_same, cu_ne hne], Int.mul_zero]
theorem Rk_zero {n : Nat} {A : Mx} {j l : Nat} (hl : l < n) : Rk n A 0 j l = A j l := by
  rw [← det_e hl (A j)]
  exact det_congr fun j' i _ _ => by
    by_cases h : j' = l
    · rw [h, cu_same, cu_same]
    · rw [cu_ne h, cu_ne h]
      show (if j' < 0 then A j' else eN j') i = _
      rw [if_neg (Nat.not_lt_zero j')]
theorem bB_succ {A : Mx} {k : Nat} : bB A (k + 1) = cu (bB A k) k (A k) := by
  funext l
  by_cases h : l = k
  · rw [h, cu_same]
    show (if k < k + 1 then A k else eN k) = A k
    rw [if_pos (by omega)]
  · rw [cu_ne h]
    show (if l < k + 1 then A l else eN l) = (if l < k then A l else eN l)
    by_cases h2 : l < k
    · rw [if_pos h2, if_pos (by omega)]
    · rw [if_neg h2, if_neg (by omega)]
theorem dk_succ {n : Nat} {A : Mx} {k : Nat} : dk n A (k + 1) = Rk n A k k k := by unfold dk Rk; rw [bB_succ]
theorem Rk_same {n : Nat} {A : Mx} {k j : Nat} : Rk n A (k + 1) j k = Rk n A k j k := by unfold Rk; rw [bB_succ, cu_cu]
/-- the columns by the basis -/
def Bas (n : Nat) (A : Mx) (k : Nat) : Prop := ∀ j i, i < n → dk n A k * A j i = sumN n fun l => Rk n A k j l * bB A k l i
theorem bas_zero {n : Nat} {A : Mx} : Bas n A 0 := fun j i hi => by
  rw [dk_zero, Int.one_mul, e_sum hi (A j) i hi]
  exact sumN_congr fun l hl => by
    rw [Rk_zero hl]
    show _ = _ * (if l < 0 then A l else eN l) i
    rw [if_neg (Nat.not_lt_zero l)]
theorem Rk_other {n : Nat} {A : Mx} {k j l : Nat} (hb : Bas n A k) (hk : k < n) (hl : l < n) (hne : l ≠ k) : dk n A k * Rk n A (k + 1) j l = Rk n A k k k * Rk n A k j l - Rk n A k k l * Rk n A k j k := by
  have e1 : dk n A k * Rk n A (k + 1) j l = det n (cu (cu (bB A k) k (A k)) l fun i => dk n A k * A j i) := by
    unfold Rk
    rw [bB_succ]
    have := det_lin (m := cu (bB A k) k (A k)) (p := l) (dk n A k) 0 (A j) (A j) hl
    rw [Int.zero_mul, Int.add_zero] at this
    rw [← this]
    exact det_congr fun j' i _ _ => by
      by_cases h : j' = l
      · rw [h, cu_same, cu_same]; omega
      · rw [cu_ne h, cu_ne h]
  have e2 : det n (cu (cu (bB A k) k (A k)) l fun i => dk n A k * A j i) = det n (cu (cu (bB A k) k (A k)) l fun i => sumN n fun t => Rk n A k j t * bB A k t i) := det_congr fun j' i _ hi => by
    by_cases h : j' = l
    · rw [h, cu_same, cu_same]; exact hb j i hi
    · rw [cu_ne h, cu_ne h]
  rw [e1, e2, det_sum hl (fun t => Rk n A k j t) (fun t => bB A k t) n, sumN_two hl hk hne fun t ht h1 h2 => ?_]
  · have e3 : det n (cu (cu (bB A k) k (A k)) l (bB A k l)) = Rk n A k k k := by
      unfold Rk
      rw [cu_comm (fun z => hne z.symm), cu_self]
    have e4 : det n (cu (cu (bB A k) k (A k)) l (bB A k k)) = -Rk n A k k l := by
      unfold Rk
      rw [det_swap (alt_all n) hk hl (fun z => hne z.symm), cu_self]
    rw [e3, e4]
    grind
  · have hz : det n (cu (cu (bB A k) k (A k)) l (bB A k t)) = 0 := by
      rcases Nat.lt_or_gt_of_ne h1 with z | z
      · exact alt_all n _ t l z hl fun i _ => by rw [cu_same, cu_ne h1, cu_ne h2]
      · exact alt_all n _ l t z ht fun i _ => by rw [cu_same, cu_ne h1, cu_ne h2]
    rw [hz, Int.mul_zero]
theorem bas_succ {n : Nat} {A : Mx} {k : Nat} (hb : Bas n A k) (hk : k < n) (hd : dk n A k ≠ 0) : Bas n A (k + 1) := fun j i hi => by
  have h1 := hb j i hi
  have h2 := hb k i hi
  refine Int.eq_of_mul_eq_mul_left hd ?_
  rw [← sumN_mul]
  -- both sums without their k-th part
  have split : ∀ f : Nat → Int, sumN n f = f k + sumN n fun l => if l = k then 0 else f l := fun f => by
    have e : sumN n f = sumN n (fun l => (if l = k then f l else 0) + (if l = k then 0 else f l)) := sumN_congr fun l _ => by split <;> omega
    rw [e, sumN_add, sumN_one hk fun l _ hne => if_neg hne, if_pos rfl]
  rw [split] at h1 h2
  rw [split (fun l => dk n A k * (Rk n A (k + 1) j l * bB A (k + 1) l i))]
  have e1 : (sumN n fun l => if l = k then 0 else dk n A k * (Rk n A (k + 1) j l * bB A (k + 1) l i)) = Rk n A k k k * (sumN n fun l => if l = k then 0 else Rk n A k j l * bB A k l i) + (-Rk n A k j k) * (sumN n fun l => if l = k then 0 else Rk n A k k l * bB A k l i) := by
    rw [← sumN_mul, ← sumN_mul, ← sumN_add]
    refine sumN_congr fun l hl => ?_
    by_cases h : l = k
    · rw [if_pos h, if_pos h, if_pos h]; omega
    · rw [if_neg h, if_neg h, if_neg h, ← Int.mul_assoc, Rk_other hb hk hl h]
      have : bB A (k + 1) l i = bB A k l i := by rw [bB_succ, cu_ne h]
      rw [this]
      grind
  have e2 : bB A (k + 1) k i = A k i := by rw [bB_succ, cu_same]
  rw [e1, e2, Rk_same, dk_succ]
  grind
theorem bas_all {n : Nat} {A : Mx} : ∀ {k : Nat}, k ≤ n → (∀ m, m < k → dk n A m ≠ 0) → Bas n A k
  | 0, _, _ => bas_zero
  | k + 1, hk, hd => bas_succ (bas_all (k := k) (by omega) fun m hm => hd m (by omega)) (by omega) (hd k (by omega))
/-- the elimination as it is reckoned -/
def el (A : Mx) : Nat → Mx
  | 0 => A
  | k + 1 => fun j i => if i = k then el A k j k else (el A k k k * el A k j i - el A k k i * el A k j k) / (match k with | 0 => 1 | m + 1 => el A m m m)
def piv (A : Mx) : Nat → Int
  | 0 => 1
  | m + 1 => el A m m m
theorem el_succ {A : Mx} {k j i : Nat} : el A (k + 1) j i = if i = k then el A k j k else (el A k k k * el A k j i - el A k k i * el A k j k) / piv A k := by
  cases k <;> rfl
theorem el_Rk {n : Nat} {A : Mx} : ∀ {k : Nat}, k ≤ n → (∀ m, m ≤ k → piv A m ≠ 0) → (∀ j i, i < n → el A k j i = Rk n A k j i) ∧ ∀ m, m ≤ k → piv A m = dk n A m
  | 0, _, _ => ⟨fun j i hi => (Rk_zero hi).symm, fun m hm => by
    have : m = 0 := by omega
    subst this
    exact dk_zero.symm⟩
  | k + 1, hk, hp => by
    obtain ⟨h1, h2⟩ := el_Rk (n := n) (A := A) (k := k) (by omega) fun m hm => hp m (by omega)
    have hb : Bas n A k := bas_all (by omega) fun m hm => by rw [← h2 m (by omega)]; exact hp m (by omega)
    refine ⟨fun j i hi => ?_, fun m hm => ?_⟩
    · rw [el_succ]
      by_cases h : i = k
      · rw [if_pos h, h, Rk_same]; exact h1 j k (by omega)
      · rw [if_neg h, h1 k k (by omega), h1 j i hi, h1 k i hi, h1 j k (by omega), ← Rk_other hb (by omega) hi h, h2 k (Nat.le_refl _)]
        exact Int.mul_ediv_cancel_left _ (by rw [← h2 k (Nat.le_refl _)]; exact hp k (by omega))
    · by_cases h : m = k + 1
      · subst h
        show el A k k k = _
        rw [dk_succ]
        exact h1 k k (by omega)
      · exact h2 m (by omega)
/-- exactly divided -/
theorem el_exact {n : Nat} {A : Mx} {k j i : Nat} (hk : k < n) (hp : ∀ m, m ≤ k → piv A m ≠ 0) (hi : i < n) (hne : i ≠ k) : el A k k k * el A k j i - el A k k i * el A k j k = piv A k * Rk n A (k + 1) j i := by
  obtain ⟨h1, h2⟩ := el_Rk (n := n) (by omega) hp
  have hb : Bas n A k := bas_all (by omega) fun m hm => by rw [← h2 m (by omega)]; exact hp m (by omega)
  rw [h1 k k hk, h1 j i hi, h1 k i hi, h1 j k hk, ← Rk_other hb hk hi hne, h2 k (Nat.le_refl _)]
/-- rows exchanged -/
def exch (p q i : Nat) : Nat := if i = p then q else if i = q then p else i
def rx (A : Mx) (p q : Nat) : Mx := fun j i => A j (exch p q i)
theorem exch_lt {p q i : Nat} (hp : i < p) (hq : i < q) : exch p q i = i := by unfold exch; rw [if_neg (by omega), if_neg (by omega)]
theorem exch_ne {p q i k : Nat} (hp : k < p) (hq : k < q) (h : i ≠ k) : exch p q i ≠ k := by unfold exch; split <;> (try split) <;> omega
theorem el_rx {A : Mx} {p q : Nat} : ∀ {k : Nat}, k ≤ p → k ≤ q → (∀ j i, el (rx A p q) k j i = el A k j (exch p q i)) ∧ ∀ m, m ≤ k → piv (rx A p q) m = piv A m
  | 0, _, _ => ⟨fun _ _ => rfl, fun m hm => by
    have : m = 0 := by omega
    subst this
    rfl⟩
  | k + 1, hp, hq => by
    obtain ⟨h1, h2⟩ := el_rx (A := A) (p := p) (q := q) (k := k) (by omega) (by omega)
    refine ⟨fun j i => ?_, fun m hm => ?_⟩
    · rw [el_succ, el_succ, h1, h1, h1, h1, h2 k (Nat.le_refl _), exch_lt (i := k) (by omega) (by omega)]
      by_cases h : i = k
      · rw [if_pos h, h, exch_lt (i := k) (by omega) (by omega), if_pos rfl]
      · rw [if_neg h, if_neg (exch_ne (by omega) (by omega) h)]
    · by_cases h : m = k + 1
      · subst h
        show el (rx A p q) k k k = el A k k k
        rw [h1, exch_lt (by omega) (by omega)]
      · exact h2 m (by omega)
/-- where the square part has no kernel there is a row with a number other than 0 -/
theorem pivot_there {n : Nat} {A : Mx} {k : Nat} (hk : k < n) (hp : ∀ m, m ≤ k → piv A m ≠ 0) (hker : ∀ x : Nat → Int, (∀ i, i < n → (sumN n fun c => A c i * x c) = 0) → ∀ c, c < n → x c = 0) : ∃ i, k ≤ i ∧ i < n ∧ el A k k i ≠ 0 := by
  obtain ⟨h1, h2⟩ := el_Rk (n := n) (by omega) hp
  have hb : Bas n A k := bas_all (by omega) fun m hm => by rw [← h2 m (by omega)]; exact hp m (by omega)
  refine Classical.byContradiction fun hno => ?_
  have hz : ∀ i, k ≤ i → i < n → Rk n A k k i = 0 := fun i h3 h4 => by
    rw [← h1 k i h4]
    exact Classical.byContradiction fun h5 => hno ⟨i, h3, h4, h5⟩
  have hx := hker (fun c => if c = k then dk n A k else if c < k then -Rk n A k k c else 0) (fun i hi => ?_) k hk
  · rw [if_pos rfl, ← h2 k (Nat.le_refl _)] at hx
    exact hp k (Nat.le_refl _) hx
  · have hbi := hb k i hi
    have e1 : (sumN n fun c => A c i * (if c = k then dk n A k else if c < k then -Rk n A k k c else 0)) = sumN n fun c => (if c = k then dk n A k * A k i else 0) + (-1) * (Rk n A k k c * bB A k c i) := sumN_congr fun c hc => by
      by_cases hck : c = k
      · rw [if_pos hck, if_pos hck, hck, hz k (Nat.le_refl _) hk]; grind
      · rw [if_neg hck, if_neg hck]
        by_cases hlt : c < k
        · rw [if_pos hlt]
          show _ = 0 + -1 * (_ * (if c < k then A c else eN c) i)
          rw [if_pos hlt]
          grind
        · rw [if_neg hlt, hz c (by omega) hc]; omega
    rw [e1, sumN_add, sumN_mul, ← hbi, sumN_one hk fun c _ hne => if_neg hne, if_pos rfl]
    omega
/-- the end: what is solved -/
theorem el_end {n : Nat} {A : Mx} (hp : ∀ m, m ≤ n → piv A m ≠ 0) : (∀ l c, l < n → c < n → el A n c l = if c = l then piv A n else 0) ∧ ∀ j i, i < n → piv A n * A j i = sumN n fun l => el A n j l * A l i := by
  obtain ⟨h1, h2⟩ := el_Rk (n := n) (Nat.le_refl _) hp
  have hb : Bas n A n := bas_all (Nat.le_refl _) fun m hm => by rw [← h2 m (by omega)]; exact hp m (by omega)
  have eB : ∀ l, l < n → bB A n l = A l := fun l hl => by
    show (if l < n then A l else eN l) = A l
    rw [if_pos hl]
  refine ⟨fun l c hl hc => ?_, fun j i hi => ?_⟩
  · rw [h1 c l hl, h2 n (Nat.le_refl _)]
    unfold Rk dk
    by_cases h : c = l
    · rw [if_pos h, h]
      rw [← eB l hl, cu_self]
    · rw [if_neg h]
      rcases Nat.lt_or_gt_of_ne h with z | z
      · exact alt_all n _ c l z hl fun i _ => by rw [cu_same, cu_ne h, eB c hc]
      · exact alt_all n _ l c z hc fun i _ => by rw [cu_same, cu_ne h, eB c hc]
  · rw [h2 n (Nat.le_refl _), hb j i hi]
    exact sumN_congr fun l hl => by rw [h1 j l hl, eB l hl]
theorem el_abs {n M : Nat} {A : Mx} {k j i W : Nat} (hM : 1 ≤ M) (hk : k ≤ n) (hn : n ≤ W) (hj : j < W) (hp : ∀ m, m ≤ k → piv A m ≠ 0) (hi : i < n) (hA : ∀ j i, j < W → i < n → (A j i).natAbs ≤ M) : (el A k j i).natAbs ≤ n ^ n * M ^ n := by
  obtain ⟨h1, _⟩ := el_Rk hk hp
  rw [h1 j i hi]
  refine det_abs fun a b ha hb => ?_
  by_cases h : a = i
  · rw [h, cu_same]; exact hA j b hj hb
  · rw [cu_ne h]
    show ((if a < k then A a else eN a) b).natAbs ≤ M
    split
    · exact hA a b (by omega) hb
    · show (if b = a then (1 : Int) else 0).natAbs ≤ M
      split
      · exact hM
      · exact Nat.zero_le _
end El

set_option linter.all false
set_option maxRecDepth 100000
set_option maxHeartbeats 2000000
namespace El
/-! ### solving, over lists -/
theorem getD_eq {α : Type} {xs : List α} {i : Nat} {x d : α} (h : xs[i]? = some x) : xs.getD i d = x := by rw [List.getD_eq_getElem?_getD, h]; rfl
theorem at_getD {α : Type} {xs : List α} {i : Nat} {d : α} (h : i < xs.length) : xs[i]? = some (xs.getD i d) := by rw [List.getD_eq_getElem?_getD, List.getElem?_eq_getElem h]; rfl
theorem getD_range {α : Type} {n i : Nat} {f : Nat → α} {d : α} (h : i < n) : ((List.range n).map f).getD i d = f i := getD_eq (by rw [List.getElem?_map, List.getElem?_range h]; rfl)
def matL (n W : Nat) (f : Mx) : List (List Int) := (List.range n).map fun i => (List.range W).map fun j => f j i
def mxOf (rows : List (List Int)) : Mx := fun j i => (rows.getD i []).getD j 0
theorem matL_len {n W : Nat} {f : Mx} : (matL n W f).length = n := by unfold matL; rw [List.length_map, List.length_range]
theorem matL_row {n W i : Nat} {f : Mx} (h : i < n) : (matL n W f).getD i [] = (List.range W).map fun j => f j i := getD_range h
theorem matL_get {n W i j : Nat} {f : Mx} (hi : i < n) (hj : j < W) : ((matL n W f).getD i []).getD j 0 = f j i := by rw [matL_row hi, getD_range hj]
theorem ext_getD {α : Type} {xs ys : List α} (d : α) (hl : xs.length = ys.length) (h : ∀ i, i < xs.length → xs.getD i d = ys.getD i d) : xs = ys := by
  refine List.ext_getElem? fun i => ?_
  by_cases hi : i < xs.length
  · rw [at_getD hi (d := d), at_getD (hl ▸ hi) (d := d), h i hi]
  · rw [List.getElem?_eq_none (by omega), List.getElem?_eq_none (by omega)]
theorem matL_of {W : Nat} {rows : List (List Int)} (h : ∀ r ∈ rows, r.length = W) : rows = matL rows.length W (mxOf rows) := by
  refine ext_getD [] matL_len.symm fun i hi => ?_
  rw [matL_row hi]
  have hr : (rows.getD i []).length = W := h _ (List.mem_of_getElem? (at_getD hi))
  refine ext_getD 0 (by rw [List.length_map, List.length_range, hr]) fun j hj => ?_
  rw [getD_range (by omega)]
  rfl
theorem matL_congr {n W : Nat} {f g : Mx} (h : ∀ j i, j < W → i < n → f j i = g j i) : matL n W f = matL n W g := by
  unfold matL
  refine List.map_congr_left fun i hi => List.map_congr_left fun j hj => h j i (List.mem_range.mp hj) (List.mem_range.mp hi)
/-- the rows with a pivot -/
def pivAt (rows : List (List Int)) (k : Nat) (p : Nat) : Bool := !decide ((rows.getD (k + p) []).getD k 0 = 0)
def swapM (rows : List (List Int)) (p q : Nat) : List (List Int) := (rows.set p (rows.getD q [])).set q (rows.getD p [])
def pivM (rows : List (List Int)) (k : Nat) : List (List Int) := match (List.range (rows.length - k)).find? (pivAt rows k) with
  | none => rows
  | some p => swapM rows k (k + p)
theorem swap_len {rows : List (List Int)} {p q : Nat} : (swapM rows p q).length = rows.length := by unfold swapM; rw [List.length_set, List.length_set]
theorem swap_get {rows : List (List Int)} {p q i : Nat} (hp : p < rows.length) (hq : q < rows.length) (hi : i < rows.length) : (swapM rows p q).getD i [] = rows.getD (exch p q i) [] := by
  unfold swapM exch
  by_cases h1 : i = q
  · subst h1
    rw [getD_eq (by rw [List.getElem?_set_self (by rw [List.length_set]; exact hq)])]
    by_cases h2 : i = p
    · rw [if_pos h2, h2]
    · rw [if_neg h2, if_pos rfl]
  · have e : ((rows.set p (rows.getD q [])).set q (rows.getD p [])).getD i [] = (rows.set p (rows.getD q [])).getD i [] := by
      rw [List.getD_eq_getElem?_getD, List.getElem?_set_ne (fun z => h1 z.symm), ← List.getD_eq_getElem?_getD]
    rw [e]
    by_cases h2 : i = p
    · subst h2
      rw [if_pos rfl, getD_eq (by rw [List.getElem?_set_self hp])]
    · rw [if_neg h2, if_neg h1, List.getD_eq_getElem?_getD, List.getElem?_set_ne (fun z => h2 z.symm), ← List.getD_eq_getElem?_getD]
theorem swap_mat {n W p q : Nat} {f : Mx} (hp : p < n) (hq : q < n) : swapM (matL n W f) p q = matL n W (rx f p q) := by
  refine ext_getD [] (by rw [swap_len, matL_len, matL_len]) fun i hi => ?_
  rw [swap_len, matL_len] at hi
  rw [swap_get (by rw [matL_len]; exact hp) (by rw [matL_len]; exact hq) (by rw [matL_len]; exact hi), matL_row hi, matL_row]
  · rfl
  · unfold exch
    split
    · exact hq
    · split
      · exact hp
      · exact hi
/-- the rows cleared -/
def clearM (rows : List (List Int)) (k : Nat) (last : Int) : List (List Int) := (List.range rows.length).map fun i =>
  if i = k then rows.getD i [] else ((rows.getD i []).zip (rows.getD k [])).map fun p => ((rows.getD k []).getD k 0 * p.1 - (rows.getD i []).getD k 0 * p.2).fdiv last
theorem clear_mat {n W k : Nat} {A : Mx} (hk : k < n) (hW : n ≤ W) (hp : ∀ m, m ≤ k → piv A m ≠ 0) : clearM (matL n W (el A k)) k (piv A k) = matL n W (el A (k + 1)) := by
  unfold clearM
  rw [matL_len]
  refine List.map_congr_left fun i hi => ?_
  have hi : i < n := List.mem_range.mp hi
  rw [matL_row hi]
  by_cases h : i = k
  · rw [if_pos h]
    refine List.map_congr_left fun j _ => ?_
    rw [el_succ, if_pos h, h]
  · rw [if_neg h, matL_row hk, getD_range (by omega), getD_range (by omega)]
    refine ext_getD 0 (by rw [List.length_map, List.length_zip, List.length_map, List.length_map, List.length_map, List.length_range, Nat.min_self]) fun j hj => ?_
    rw [List.length_map, List.length_zip, List.length_map, List.length_map, List.length_range, Nat.min_self] at hj
    rw [getD_range hj]
    have hz : (((List.range W).map fun j => el A k j i).zip ((List.range W).map fun j => el A k j k))[j]? = some (el A k j i, el A k j k) := by
      rw [List.getElem?_zip_eq_some, List.getElem?_map, List.getElem?_map, List.getElem?_range hj]
      exact ⟨rfl, rfl⟩
    rw [getD_eq (by rw [List.getElem?_map, hz]; rfl), el_succ, if_neg h]
    refine Int.fdiv_eq_ediv_of_dvd ?_
    exact ⟨_, el_exact hk hp hi h⟩
/-- what is asked of rows that are solved -/
structure Solv (rows : List (List Int)) (W M : Nat) : Prop where
  wide : ∀ r ∈ rows, r.length = W
  le : rows.length ≤ W
  few : rows.length ≤ 1000
  wfew : W ≤ 10000
  one : 1 ≤ M
  small : ∀ j i, j < W → i < rows.length → (mxOf rows j i).natAbs ≤ M
  bits : rows.length ^ rows.length * M ^ rows.length < 2 ^ 4000
  ker : ∀ x : Nat → Int, (∀ i, i < rows.length → (sumN rows.length fun c => mxOf rows c i * x c) = 0) → ∀ c, c < rows.length → x c = 0
/-- sums of shares -/
def sumQ : Nat → (Nat → Rat) → Rat
  | 0, _ => 0
  | n + 1, f => sumQ n f + f n
theorem sumQ_congr {f g : Nat → Rat} : ∀ {n : Nat}, (∀ i, i < n → f i = g i) → sumQ n f = sumQ n g
  | 0, _ => rfl
  | n + 1, h => by
    show sumQ n f + f n = sumQ n g + g n
    rw [sumQ_congr fun i hi => h i (by omega), h n (by omega)]
theorem sumQ_mul (a : Rat) (f : Nat → Rat) : ∀ n, sumQ n (fun i => a * f i) = a * sumQ n f
  | 0 => by show (0 : Rat) = a * 0; grind
  | n + 1 => by
    show sumQ n _ + _ = a * (sumQ n f + f n)
    rw [sumQ_mul a f n]
    grind
theorem sumQ_int (f : Nat → Int) : ∀ n, sumQ n (fun i => ((f i : Int) : Rat)) = ((sumN n f : Int) : Rat)
  | 0 => by show (0 : Rat) = ((0 : Int) : Rat); rfl
  | n + 1 => by
    show sumQ n _ + _ = ((sumN n f + f n : Int) : Rat)
    rw [sumQ_int f n, Rat.intCast_add]
theorem sumQ_add (f g : Nat → Rat) : ∀ n, sumQ n (fun i => f i + g i) = sumQ n f + sumQ n g
  | 0 => by show (0 : Rat) = 0 + 0; grind
  | n + 1 => by
    show sumQ n _ + (f n + g n) = (sumQ n f + f n) + (sumQ n g + g n)
    rw [sumQ_add f g n]
    grind
/-- x solves the rows: column c of x for the c-th right side -/
def IsSol (rows : List (List Int)) (W : Nat) (x : List (List Rat)) : Prop := x.length = rows.length ∧ (∀ r ∈ x, r.length = W - rows.length) ∧
  ∀ i c, i < rows.length → c < W - rows.length → sumQ rows.length (fun l => (mxOf rows l i : Rat) * (x.getD l []).getD c 0) = (mxOf rows (rows.length + c) i : Rat)
/-- all denominators made one: a common multiple -/
theorem clear_den : ∀ (n : Nat) (f : Nat → Rat), ∃ D : Int, D ≠ 0 ∧ ∀ i, i < n → ∃ p : Int, (D : Rat) * f i = (p : Rat)
  | 0, _ => ⟨1, by decide, fun i h => absurd h (Nat.not_lt_zero i)⟩
  | n + 1, f => by
    obtain ⟨D, hD, h⟩ := clear_den n f
    have hd : ((f n).den : Int) ≠ 0 := by have := (f n).den_nz; omega
    refine ⟨D * (f n).den, Int.mul_ne_zero hD hd, fun i hi => ?_⟩
    have hn : (((f n).den : Int) : Rat) * f n = ((f n).num : Rat) := by
      have h2 := Rat.num_divInt_den (f n)
      rw [Rat.divInt_eq_div] at h2
      have h3 : (((f n).den : Int) : Rat) ≠ 0 := fun z => hd (by exact Rat.intCast_inj.mp (by rw [z]; rfl))
      grind
    by_cases e : i = n
    · subst e
      refine ⟨D * (f i).num, ?_⟩
      rw [Rat.intCast_mul, Rat.intCast_mul, ← hn]
      grind
    · obtain ⟨p, hp⟩ := h i (by omega)
      refine ⟨(f n).den * p, ?_⟩
      rw [Rat.intCast_mul, Rat.intCast_mul, ← hp]
      grind
theorem ker_rat {n : Nat} {A : Mx} (ker : ∀ x : Nat → Int, (∀ i, i < n → (sumN n fun c => A c i * x c) = 0) → ∀ c, c < n → x c = 0) {f : Nat → Rat} (h : ∀ i, i < n → sumQ n (fun c => (A c i : Rat) * f c) = 0) : ∀ c, c < n → f c = 0 := fun c hc => by
  obtain ⟨D, hD, hp⟩ := clear_den n f
  have hDq : (D : Rat) ≠ 0 := fun z => hD (Rat.intCast_inj.mp (by rw [z]; rfl))
  have hx : ∀ i, i < n → ((Rat.num ((D : Rat) * f i) : Int) : Rat) = (D : Rat) * f i := fun i hi => by
    obtain ⟨p, hp⟩ := hp i hi
    rw [hp]
    rfl
  have hz := ker (fun i => Rat.num ((D : Rat) * f i)) (fun i hi => ?_) c hc
  · have h1 := hx c hc
    have hz' : Rat.num ((D : Rat) * f c) = 0 := hz
    rw [hz'] at h1
    have h2 : (D : Rat) * f c = 0 := by rw [← h1]; rfl
    rcases Rat.mul_eq_zero.mp h2 with h3 | h3
    · exact absurd h3 hDq
    · exact h3
  · refine Rat.intCast_inj.mp ?_
    rw [← sumQ_int]
    have e : sumQ n (fun c => ((A c i * Rat.num ((D : Rat) * f c) : Int) : Rat)) = sumQ n (fun c => (D : Rat) * ((A c i : Rat) * f c)) := sumQ_congr fun c hc => by
      rw [Rat.intCast_mul, hx c hc]
      grind
    rw [e, sumQ_mul, h i hi]
    show (D : Rat) * 0 = 0
    grind
theorem sol_one {rows : List (List Int)} {W : Nat} (ker : ∀ x : Nat → Int, (∀ i, i < rows.length → (sumN rows.length fun c => mxOf rows c i * x c) = 0) → ∀ c, c < rows.length → x c = 0) {x y : List (List Rat)} (hx : IsSol rows W x) (hy : IsSol rows W y) : x = y := by
  obtain ⟨x1, x2, x3⟩ := hx
  obtain ⟨y1, y2, y3⟩ := hy
  refine ext_getD [] (by rw [x1, y1]) fun l hl => ?_
  have hxl : (x.getD l []).length = W - rows.length := x2 _ (List.mem_of_getElem? (at_getD hl))
  have hyl : (y.getD l []).length = W - rows.length := y2 _ (List.mem_of_getElem? (at_getD (by omega)))
  refine ext_getD 0 (by rw [hxl, hyl]) fun c hc => ?_
  have hc : c < W - rows.length := by omega
  have := ker_rat ker (f := fun l => (x.getD l []).getD c 0 - (y.getD l []).getD c 0) (fun i hi => ?_) l (by omega)
  · have h2 : (x.getD l []).getD c 0 - (y.getD l []).getD c 0 = 0 := this
    grind
  · have e : sumQ rows.length (fun l => (mxOf rows l i : Rat) * ((x.getD l []).getD c 0 - (y.getD l []).getD c 0)) = sumQ rows.length (fun l => (mxOf rows l i : Rat) * (x.getD l []).getD c 0 + (-1) * ((mxOf rows l i : Rat) * (y.getD l []).getD c 0)) := sumQ_congr fun l _ => by grind
    rw [e, sumQ_add, sumQ_mul, x3 i c hi hc, y3 i c hi hc]
    grind
open Classical in
noncomputable def solR (rows : List (List Int)) (W : Nat) : List (List Rat) := if h : ∃ x, IsSol rows W x then h.choose else []
theorem solR_eq {rows : List (List Int)} {W : Nat} (ker : ∀ x : Nat → Int, (∀ i, i < rows.length → (sumN rows.length fun c => mxOf rows c i * x c) = 0) → ∀ c, c < rows.length → x c = 0) {x : List (List Rat)} (hx : IsSol rows W x) : solR rows W = x := by
  have h : ∃ x, IsSol rows W x := ⟨x, hx⟩
  unfold solR
  rw [dif_pos h]
  exact sol_one ker h.choose_spec hx
/-- between two steps -/
structure Mid (rows : List (List Int)) (W M k : Nat) (A : Mx) : Prop where
  piv0 : ∀ m, m ≤ k → piv A m ≠ 0
  sur : ∀ i, i < rows.length → ∃ i', i' < rows.length ∧ ∀ j, mxOf rows j i = A j i'
  small : ∀ j i, j < W → i < rows.length → (A j i).natAbs ≤ M
theorem mid0 {rows : List (List Int)} {W M : Nat} (s : Solv rows W M) : Mid rows W M 0 (mxOf rows) where
  piv0 := fun m hm => by
    have : m = 0 := by omega
    subst this
    exact fun z => nomatch (show (1 : Int) = 0 from z)
  sur := fun i hi => ⟨i, hi, fun _ => rfl⟩
  small := s.small
theorem mid_ker {rows : List (List Int)} {W M k : Nat} {A : Mx} (s : Solv rows W M) (m : Mid rows W M k A) : ∀ x : Nat → Int, (∀ i, i < rows.length → (sumN rows.length fun c => A c i * x c) = 0) → ∀ c, c < rows.length → x c = 0 := fun x hx => s.ker x fun i hi => by
  obtain ⟨i', hi', h⟩ := m.sur i hi
  rw [← hx i' hi']
  exact sumN_congr fun c _ => by rw [h c]
/-- a pivot is found, and the rows are cleared -/
theorem mid_step {rows : List (List Int)} {W M k : Nat} {A : Mx} (s : Solv rows W M) (m : Mid rows W M k A) (hk : k < rows.length) : ∃ B, Mid rows W M (k + 1) B ∧ pivM (matL rows.length W (el A k)) k = matL rows.length W (el B k) ∧ piv B k = piv A k ∧ clearM (matL rows.length W (el B k)) k (piv A k) = matL rows.length W (el B (k + 1)) := by
  obtain ⟨i, h1, h2, h3⟩ := pivot_there hk m.piv0 (mid_ker s m)
  have hle := s.le
  have hent : ∀ p, p < rows.length - k → pivAt (matL rows.length W (el A k)) k p = !decide (el A k k (k + p) = 0) := fun p hp => by
    unfold pivAt
    rw [matL_get (by omega) (by omega)]
  obtain ⟨p, hp⟩ : ∃ p, (List.range (rows.length - k)).find? (pivAt (matL rows.length W (el A k)) k) = some p := by
    cases q : (List.range (rows.length - k)).find? (pivAt (matL rows.length W (el A k)) k) with
    | some p => exact ⟨p, rfl⟩
    | none =>
      have := List.find?_eq_none.mp q (i - k) (List.mem_range.mpr (by omega))
      rw [hent _ (by omega), show k + (i - k) = i by omega, decide_eq_false h3] at this
      simp at this
  have hp1 : p < rows.length - k := List.mem_range.mp (List.mem_of_find?_eq_some hp)
  have hp2 : el A k k (k + p) ≠ 0 := by
    have := List.find?_some hp
    rw [hent p hp1] at this
    intro z
    rw [z] at this
    simp at this
  obtain ⟨r1, r2⟩ := el_rx (A := A) (p := k) (q := k + p) (k := k) (Nat.le_refl _) (by omega)
  have eB : matL rows.length W (el (rx A k (k + p)) k) = matL rows.length W (rx (el A k) k (k + p)) := matL_congr fun j i _ _ => r1 j i
  have exl : ∀ i, i < rows.length → exch k (k + p) i < rows.length := fun i hi => by
    unfold exch
    split
    · omega
    · split <;> omega
  have exx : ∀ i, exch k (k + p) (exch k (k + p) i) = i := fun i => by
    unfold exch
    split <;> (try split) <;> (try split) <;> omega
  have hpv : ∀ m', m' ≤ k + 1 → piv (rx A k (k + p)) m' ≠ 0 := fun m' hm => by
    by_cases e : m' = k + 1
    · subst e
      show el (rx A k (k + p)) k k k ≠ 0
      rw [r1, show exch k (k + p) k = k + p by unfold exch; rw [if_pos rfl]]
      exact hp2
    · rw [r2 m' (by omega)]
      exact m.piv0 m' (by omega)
  refine ⟨rx A k (k + p), ⟨hpv, fun i hi => ?_, fun j i hj hi => m.small j _ hj (exl i hi)⟩, ?_, r2 k (Nat.le_refl _), ?_⟩
  · obtain ⟨i', hi', h⟩ := m.sur i hi
    refine ⟨exch k (k + p) i', exl i' hi', fun j => ?_⟩
    rw [h j]
    show A j i' = A j (exch k (k + p) (exch k (k + p) i'))
    rw [exx]
  · unfold pivM
    rw [matL_len, hp]
    show swapM _ _ _ = _
    rw [swap_mat hk (by omega), eB]
  · rw [← r2 k (Nat.le_refl _)]
    exact clear_mat hk s.le fun m' hm => hpv m' (by omega)
theorem mid_abs {rows : List (List Int)} {W M k : Nat} {A : Mx} (s : Solv rows W M) (m : Mid rows W M k A) (hk : k ≤ rows.length) {j i : Nat} (hj : j < W) (hi : i < rows.length) : (el A k j i).natAbs < 2 ^ 4000 :=
  Nat.lt_of_le_of_lt (el_abs s.one hk s.le hj m.piv0 hi m.small) s.bits
theorem piv_abs {rows : List (List Int)} {W M k : Nat} {A : Mx} (s : Solv rows W M) (m : Mid rows W M k A) (hk : k ≤ rows.length) : (piv A k).natAbs < 2 ^ 4000 := by
  cases k with
  | zero => exact Nat.lt_of_lt_of_le (show (1 : Int).natAbs < 2 ^ 1 by decide) (Nat.pow_le_pow_right (by decide) (by decide))
  | succ k =>
    have hle := s.le
    have := mid_abs s m hk (j := k) (i := k) (by omega) (by omega)
    rw [el_succ, if_pos rfl] at this
    exact this
/-- the end -/
theorem mid_sol {rows : List (List Int)} {W M : Nat} {A : Mx} (s : Solv rows W M) (m : Mid rows W M rows.length A) : IsSol rows W ((List.range rows.length).map fun k => ((List.range (W - rows.length)).map fun c => Rat.divInt (el A rows.length (rows.length + c) k) (piv A rows.length))) := by
  obtain ⟨e1, e2⟩ := el_end (n := rows.length) m.piv0
  have hp := m.piv0 rows.length (Nat.le_refl _)
  have hpq : (piv A rows.length : Rat) ≠ 0 := fun z => hp (Rat.intCast_inj.mp (by rw [z]; rfl))
  refine ⟨by rw [List.length_map, List.length_range], fun r hr => ?_, fun i c hi hc => ?_⟩
  · obtain ⟨k, hk, rfl⟩ := List.mem_map.mp hr
    rw [List.length_map, List.length_range]
  · obtain ⟨i', hi', h⟩ := m.sur i hi
    have h2 := e2 (rows.length + c) i' hi'
    have e : sumQ rows.length (fun l => (mxOf rows l i : Rat) * (((List.range rows.length).map fun k => ((List.range (W - rows.length)).map fun c => Rat.divInt (el A rows.length (rows.length + c) k) (piv A rows.length))).getD l []).getD c 0) = sumQ rows.length (fun l => ((piv A rows.length : Rat))⁻¹ * ((el A rows.length (rows.length + c) l * A l i' : Int) : Rat)) := sumQ_congr fun l hl => by
      rw [getD_range hl, getD_range hc, h l, Rat.divInt_eq_div, Rat.intCast_mul, Rat.div_def]
      grind
    rw [e, sumQ_mul, sumQ_int, ← h2, h (rows.length + c), Rat.intCast_mul]
    grind
theorem mid_end {rows : List (List Int)} {W M : Nat} {A : Mx} (s : Solv rows W M) (m : Mid rows W M rows.length A) :
    (∀ k, k < rows.length → el A rows.length k k = piv A rows.length) ∧ ((List.range rows.length).map fun k => ((List.range (W - rows.length)).map fun c => Rat.divInt (el A rows.length (rows.length + c) k) (piv A rows.length))) = solR rows W := by
  obtain ⟨e1, e2⟩ := el_end (n := rows.length) m.piv0
  exact ⟨fun k hk => by rw [e1 k k hk hk, if_pos rfl], (solR_eq s.ker (mid_sol s m)).symm⟩
theorem mid_all {rows : List (List Int)} {W M : Nat} (s : Solv rows W M) : ∀ k, k ≤ rows.length → ∃ A, Mid rows W M k A
  | 0, _ => ⟨_, mid0 s⟩
  | k + 1, hk => by
    obtain ⟨A, hA⟩ := mid_all s k (by omega)
    obtain ⟨B, hB, _⟩ := mid_step s hA (by omega)
    exact ⟨B, hB⟩
theorem solR_sol {rows : List (List Int)} {W M : Nat} (s : Solv rows W M) : IsSol rows W (solR rows W) := by
  obtain ⟨A, hA⟩ := mid_all s _ (Nat.le_refl _)
  rw [← (mid_end s hA).2]
  exact mid_sol s hA
/-- the denominators all part one number -/
theorem solR_over {rows : List (List Int)} {W M : Nat} (s : Solv rows W M) : ∃ D : Int, D ≠ 0 ∧ D.natAbs < 2 ^ 4000 ∧ ∀ k c, k < rows.length → c < W - rows.length → ∃ p : Int, ((solR rows W).getD k []).getD c 0 = Rat.divInt p D ∧ p.natAbs ≤ rows.length ^ rows.length * M ^ rows.length := by
  obtain ⟨A, hA⟩ := mid_all s _ (Nat.le_refl _)
  refine ⟨piv A rows.length, hA.piv0 _ (Nat.le_refl _), piv_abs s hA (Nat.le_refl _), fun k c hk hc => ?_⟩
  rw [← (mid_end s hA).2, getD_range hk, getD_range hc]
  exact ⟨_, rfl, el_abs s.one (Nat.le_refl _) s.le (by omega) hA.piv0 hk hA.small⟩
end El

set_option linter.all false
set_option maxRecDepth 100000
set_option maxHeartbeats 4000000
namespace El
/-! ### walks: where they come, and how they rest -/
theorem sumQ_zero {f : Nat → Rat} : ∀ {n : Nat}, (∀ i, i < n → f i = 0) → sumQ n f = 0
  | 0, _ => rfl
  | n + 1, h => by
    show sumQ n f + f n = 0
    rw [sumQ_zero fun i hi => h i (by omega), h n (by omega)]
    grind
theorem sumQ_one {f : Nat → Rat} {n k : Nat} (hk : k < n) (h : ∀ i, i < n → i ≠ k → f i = 0) : sumQ n f = f k := by
  induction n with
  | zero => omega
  | succ n ih =>
    show sumQ n f + f n = f k
    by_cases e : k = n
    · rw [e, sumQ_zero fun i hi => h i (by omega) (by omega)]; grind
    · rw [ih (by omega) fun i hi hne => h i (by omega) hne, h n (by omega) (fun z => e z.symm)]; grind
theorem sumQ_comm (f : Nat → Nat → Rat) : ∀ m n, sumQ m (fun i => sumQ n (fun j => f i j)) = sumQ n (fun j => sumQ m (fun i => f i j))
  | 0, n => (sumQ_zero fun _ _ => rfl).symm
  | m + 1, n => by
    show sumQ m _ + sumQ n _ = sumQ n (fun j => sumQ m (fun i => f i j) + f m j)
    rw [sumQ_add, sumQ_comm f m n]
theorem sumQ_le {f g : Nat → Rat} : ∀ {n : Nat}, (∀ i, i < n → f i ≤ g i) → sumQ n f ≤ sumQ n g
  | 0, _ => Rat.le_refl
  | n + 1, h => by
    have h1 := sumQ_le (n := n) fun i hi => h i (by omega)
    have h2 := h n (by omega)
    show sumQ n f + f n ≤ sumQ n g + g n
    grind
theorem sumQ_nonneg {f : Nat → Rat} {n : Nat} (h : ∀ i, i < n → 0 ≤ f i) : 0 ≤ sumQ n f := by
  have := sumQ_le (f := fun _ => 0) h
  rw [sumQ_zero fun _ _ => rfl] at this
  exact this
/-- term by term at most, together alike: alike term by term -/
theorem sumQ_eq {f g : Nat → Rat} : ∀ {n : Nat}, (∀ i, i < n → f i ≤ g i) → sumQ n f = sumQ n g → ∀ i, i < n → f i = g i
  | 0, _, _, i, hi => absurd hi (Nat.not_lt_zero i)
  | n + 1, h, e, i, hi => by
    have h1 := sumQ_le (n := n) fun i hi => h i (by omega)
    have h2 := h n (by omega)
    have e' : sumQ n f + f n = sumQ n g + g n := e
    have e1 : sumQ n f = sumQ n g := by grind
    by_cases z : i = n
    · subst z; grind
    · exact sumQ_eq (n := n) (fun i hi => h i (by omega)) e1 i (by omega)
theorem sumQ_pos {f : Nat → Rat} {n k : Nat} (hk : k < n) (h : ∀ i, i < n → 0 ≤ f i) (hp : 0 < f k) : 0 < sumQ n f := by
  have h0 := sumQ_nonneg h
  have hne : sumQ n f ≠ 0 := fun z => by
    have := sumQ_eq (f := fun _ => 0) (g := f) h (by rw [sumQ_zero fun _ _ => rfl, z]) k hk
    grind
  grind
def absQ (x : Rat) : Rat := if 0 ≤ x then x else -x
theorem absQ_nonneg (x : Rat) : 0 ≤ absQ x := by unfold absQ; grind
theorem absQ_ge (x : Rat) : x ≤ absQ x := by unfold absQ; grind
theorem absQ_ge' (x : Rat) : -x ≤ absQ x := by unfold absQ; grind
theorem absQ_add (x y : Rat) : absQ (x + y) ≤ absQ x + absQ y := by unfold absQ; grind
theorem absQ_mul {x c : Rat} (h : 0 ≤ c) : absQ (x * c) = absQ x * c := by
  unfold absQ
  by_cases hx : 0 ≤ x
  · rw [if_pos hx, if_pos (Rat.mul_nonneg hx h)]
  · by_cases hc : c = 0
    · subst hc; grind
    · have h1 : 0 < c := by grind
      have h2 : 0 < (-x) * c := Rat.mul_pos (by grind) h1
      rw [if_neg hx, if_neg (by grind)]
      grind
theorem absQ_sum (f : Nat → Rat) : ∀ n, absQ (sumQ n f) ≤ sumQ n fun i => absQ (f i)
  | 0 => by show absQ 0 ≤ 0; unfold absQ; grind
  | n + 1 => by
    have h1 := absQ_sum f n
    have h2 := absQ_add (sumQ n f) (f n)
    show absQ (sumQ n f + f n) ≤ (sumQ n fun i => absQ (f i)) + absQ (f n)
    grind
/-- comes from one to another -/
inductive Rch (E : Nat → Nat → Prop) : Nat → Nat → Prop
  | refl (a : Nat) : Rch E a a
  | step {a b c : Nat} : Rch E a b → E b c → Rch E a c
theorem Rch.trans {E : Nat → Nat → Prop} {a b c : Nat} (h : Rch E a b) (g : Rch E b c) : Rch E a c := by
  induction g with
  | refl => exact h
  | step _ e ih => exact ih.step e
structure Chain (n : Nat) (P : Nat → Nat → Nat) (W : Nat) : Prop where
  pos : 1 ≤ W
  row : ∀ a, a < n → (sumQ n fun b => (P a b : Rat)) = (W : Rat)
def stepC (n : Nat) (P : Nat → Nat → Nat) (a b : Nat) : Prop := b < n ∧ 0 < P a b
noncomputable def rchB (n : Nat) (P : Nat → Nat → Nat) (p q : Nat) : Bool := @decide (Rch (stepC n P) p q) (Classical.propDecidable _)
theorem rchB_iff {n : Nat} {P : Nat → Nat → Nat} {p q : Nat} : rchB n P p q = true ↔ Rch (stepC n P) p q := by unfold rchB; exact @decide_eq_true_iff _ (Classical.propDecidable _)
noncomputable def reachC (n : Nat) (P : Nat → Nat → Nat) (p : Nat) : List Nat := (List.range n).filter (rchB n P p)
theorem rch_lt {n : Nat} {P : Nat → Nat → Nat} {a b : Nat} (ha : a < n) (h : Rch (stepC n P) a b) : b < n := by
  cases h with
  | refl => exact ha
  | step _ e => exact e.1
theorem mem_reach {n : Nat} {P : Nat → Nat → Nat} {p q : Nat} (hp : p < n) : q ∈ reachC n P p ↔ Rch (stepC n P) p q := by
  unfold reachC
  rw [List.mem_filter, List.mem_range, rchB_iff]
  exact ⟨fun h => h.2, fun h => ⟨rch_lt hp h, h⟩⟩
theorem reach_eq {n : Nat} {P : Nat → Nat → Nat} {p q : Nat} (h1 : Rch (stepC n P) p q) (h2 : Rch (stepC n P) q p) : reachC n P p = reachC n P q := by
  unfold reachC
  refine List.filter_congr fun r _ => ?_
  have : rchB n P p r = true ↔ rchB n P q r = true := by rw [rchB_iff, rchB_iff]; exact ⟨fun h => h2.trans h, fun h => h1.trans h⟩
  exact Bool.eq_iff_iff.mpr this
theorem reach_sub {n : Nat} {P : Nat → Nat → Nat} {p q : Nat} (hp : p < n) (h1 : Rch (stepC n P) p q) : ∀ r ∈ reachC n P q, r ∈ reachC n P p := fun r hr =>
  (mem_reach hp).mpr (h1.trans ((mem_reach (rch_lt hp h1)).mp hr))
theorem filter_sub_len {p q : Nat → Bool} : ∀ {l : List Nat}, (∀ x ∈ l, p x = true → q x = true) → (l.filter p).length ≤ (l.filter q).length ∧ ((l.filter p).length = (l.filter q).length → l.filter p = l.filter q)
  | [], _ => ⟨Nat.le_refl _, fun _ => rfl⟩
  | a :: l, h => by
    obtain ⟨i1, i2⟩ := filter_sub_len (p := p) (q := q) (l := l) fun x hx => h x (List.mem_cons_of_mem a hx)
    rw [List.filter_cons, List.filter_cons]
    by_cases hp : p a = true
    · rw [if_pos hp, if_pos (h a List.mem_cons_self hp)]
      exact ⟨Nat.succ_le_succ i1, fun e => by rw [i2 (by simpa using e)]⟩
    · rw [if_neg hp]
      by_cases hq : q a = true
      · rw [if_pos hq]
        exact ⟨Nat.le_succ_of_le i1, fun e => by rw [List.length_cons] at e; omega⟩
      · rw [if_neg hq]; exact ⟨i1, i2⟩
theorem exists_closed {n : Nat} {P : Nat → Nat → Nat} : ∀ (k p : Nat), p < n → (reachC n P p).length ≤ k → ∃ q, Rch (stepC n P) p q ∧ ∀ r, Rch (stepC n P) q r → reachC n P r = reachC n P q
  | 0, p, hp, hk => by
    have := (mem_reach (P := P) hp).mpr (Rch.refl p)
    rw [List.length_eq_zero_iff.mp (Nat.le_zero.mp hk)] at this
    cases this
  | k + 1, p, hp, hk => by
    by_cases h : ∀ r, Rch (stepC n P) p r → reachC n P r = reachC n P p
    · exact ⟨p, .refl p, h⟩
    · obtain ⟨r, hr⟩ := Classical.not_forall.mp h
      obtain ⟨h1, h2⟩ := Classical.not_imp.mp hr
      have hrn := rch_lt hp h1
      have sub := filter_sub_len (l := List.range n) (p := rchB n P r) (q := rchB n P p) fun x _ hx => rchB_iff.mpr (h1.trans (rchB_iff.mp hx))
      have hlt : (reachC n P r).length < (reachC n P p).length := Nat.lt_of_le_of_ne sub.1 fun e => h2 (sub.2 e)
      obtain ⟨q, q1, q2⟩ := exists_closed (P := P) k r hrn (by omega)
      exact ⟨q, h1.trans q1, q2⟩
def closB (n : Nat) (R : Nat → List Nat) (p : Nat) : Bool := decide ((R p).headD n = p) && (R p).all fun q => decide (R q = R p)
noncomputable def closedC (n : Nat) (P : Nat → Nat → Nat) : List (List Nat) := ((List.range n).filter (closB n (reachC n P))).map (reachC n P)
theorem head_mem {l : List Nat} {d : Nat} (h : l ≠ []) : l.headD d ∈ l := by
  cases l with
  | nil => exact absurd rfl h
  | cons a l => exact List.mem_cons_self
/-- a closed class, told by its least place -/
theorem closed_mem {n : Nat} {P : Nat → Nat → Nat} {q : Nat} (hq : q < n) (h : ∀ r, Rch (stepC n P) q r → reachC n P r = reachC n P q) : closB n (reachC n P) ((reachC n P q).headD n) = true ∧ (reachC n P q).headD n < n ∧ reachC n P ((reachC n P q).headD n) = reachC n P q := by
  have hne : reachC n P q ≠ [] := List.ne_nil_of_mem ((mem_reach hq).mpr (Rch.refl q))
  have hm := head_mem (d := n) hne
  have hr := (mem_reach hq).mp hm
  have e := h _ hr
  refine ⟨?_, rch_lt hq hr, e⟩
  unfold closB
  rw [e, decide_eq_true rfl, Bool.true_and]
  exact List.all_eq_true.mpr fun r hr => decide_eq_true (h r ((mem_reach hq).mp hr))
theorem closed_of {n : Nat} {P : Nat → Nat → Nat} {p : Nat} (hp : p < n) (h : closB n (reachC n P) p = true) : ∀ r, Rch (stepC n P) p r → reachC n P r = reachC n P p := fun r hr => by
  unfold closB at h
  exact of_decide_eq_true (List.all_eq_true.mp (Bool.and_eq_true_iff.mp h).2 r ((mem_reach hp).mpr hr))
/-- one closed set: it is come to from everywhere -/
theorem one_closed {n : Nat} {P : Nat → Nat → Nat} {C : List Nat} (h : closedC n P = [C]) : ∀ p, p < n → ∀ q ∈ C, Rch (stepC n P) p q := fun p hp q hq => by
  obtain ⟨r, r1, r2⟩ := exists_closed (P := P) _ p hp (Nat.le_refl _)
  have hr := rch_lt hp r1
  obtain ⟨m1, m2, m3⟩ := closed_mem hr r2
  have : reachC n P ((reachC n P r).headD n) ∈ closedC n P := List.mem_map.mpr ⟨_, List.mem_filter.mpr ⟨List.mem_range.mpr m2, m1⟩, rfl⟩
  rw [h, m3] at this
  rw [← List.mem_singleton.mp this] at hq
  exact r1.trans ((mem_reach hr).mp hq)
theorem closed_in {n : Nat} {P : Nat → Nat → Nat} {C : List Nat} (h : C ∈ closedC n P) : ∃ m, m < n ∧ C = reachC n P m ∧ m ∈ C ∧ ∀ r ∈ C, reachC n P r = C := by
  unfold closedC at h
  obtain ⟨m, hm, rfl⟩ := List.mem_map.mp h
  obtain ⟨m1, m2⟩ := List.mem_filter.mp hm
  have hn := List.mem_range.mp m1
  exact ⟨m, hn, rfl, (mem_reach hn).mpr (Rch.refl m), fun r hr => closed_of hn m2 r ((mem_reach hn).mp hr)⟩
/-- where one place is come to from everywhere there is one closed set -/
theorem closed_one {n : Nat} {P : Nat → Nat → Nat} {z : Nat} (hz : z < n) (h : ∀ p, p < n → Rch (stepC n P) p z) : closedC n P = [reachC n P z] := by
  have hcl : ∀ r, Rch (stepC n P) z r → reachC n P r = reachC n P z := fun r hr => (reach_eq hr (h r (rch_lt hz hr))).symm
  obtain ⟨m1, m2, m3⟩ := closed_mem hz hcl
  have huni : ∀ p, p < n → closB n (reachC n P) p = true → p = (reachC n P z).headD n := fun p hp hc => by
    have e := closed_of hp hc z (h p hp)
    rw [e]
    unfold closB at hc
    exact (of_decide_eq_true (Bool.and_eq_true_iff.mp hc).1).symm
  have hf : (List.range n).filter (closB n (reachC n P)) = [(reachC n P z).headD n] := by
    have hnd : ((List.range n).filter (closB n (reachC n P))).Nodup := List.nodup_range.filter _
    have hmem : ∀ x, x ∈ (List.range n).filter (closB n (reachC n P)) ↔ x = (reachC n P z).headD n := fun x => by
      rw [List.mem_filter, List.mem_range]
      exact ⟨fun ⟨h1, h2⟩ => huni x h1 h2, fun e => by rw [e]; exact ⟨m2, m1⟩⟩
    have hp : ((List.range n).filter (closB n (reachC n P))).Perm [(reachC n P z).headD n] := (List.perm_ext_iff_of_nodup hnd (by simp)).mpr fun x => by rw [hmem, List.mem_singleton]
    exact List.perm_singleton.mp hp
  unfold closedC
  rw [hf, List.map_cons, List.map_nil, m3]
/-- resting -/
def Stat (n : Nat) (P : Nat → Nat → Nat) (W : Nat) (x : Nat → Rat) : Prop := ∀ b, b < n → (sumQ n fun a => x a * (P a b : Rat)) = (W : Rat) * x b
theorem cast_nonneg (k : Nat) : (0 : Rat) ≤ (k : Rat) := by
  have : ((0 : Int) : Rat) ≤ ((k : Int) : Rat) := Rat.intCast_le_intCast.mpr (by omega)
  exact this
theorem cast_pos {k : Nat} (h : 0 < k) : (0 : Rat) < (k : Rat) := by
  have : ((0 : Int) : Rat) < ((k : Int) : Rat) := Rat.intCast_lt_intCast.mpr (by omega)
  exact this
theorem stat_sup {n : Nat} {P : Nat → Nat → Nat} {W : Nat} (hW : 1 ≤ W) {x : Nat → Rat} (hs : Stat n P W x) (h0 : ∀ a, a < n → 0 ≤ x a) {a b : Nat} (ha : a < n) (hx : 0 < x a) (h : Rch (stepC n P) a b) : 0 < x b := by
  induction h with
  | refl => exact hx
  | step h e ih =>
    rename_i b c
    have hb := rch_lt ha h
    have := sumQ_pos (n := n) (f := fun a => x a * (P a c : Rat)) hb (fun i hi => Rat.mul_nonneg (h0 i hi) (cast_nonneg _)) (Rat.mul_pos ih (cast_pos e.2))
    rw [hs c e.1] at this
    have hWp := cast_pos (show 0 < W by omega)
    refine Classical.byContradiction fun hn => ?_
    have h1 : x c = 0 := by have := h0 c e.1; grind
    rw [h1] at this
    grind
theorem stat_abs {n : Nat} {P : Nat → Nat → Nat} {W : Nat} (c : Chain n P W) {x : Nat → Rat} (hs : Stat n P W x) : Stat n P W fun a => absQ (x a) := by
  have hle : ∀ b, b < n → (W : Rat) * absQ (x b) ≤ sumQ n fun a => absQ (x a) * (P a b : Rat) := fun b hb => by
    have h1 := absQ_sum (fun a => x a * (P a b : Rat)) n
    rw [hs b hb] at h1
    have h2 : absQ ((W : Rat) * x b) = (W : Rat) * absQ (x b) := by rw [Rat.mul_comm, absQ_mul (cast_nonneg W), Rat.mul_comm]
    rw [h2] at h1
    have e : (sumQ n fun i => absQ (x i * (P i b : Rat))) = sumQ n fun a => absQ (x a) * (P a b : Rat) := sumQ_congr fun a _ => absQ_mul (cast_nonneg _)
    rw [← e]
    exact h1
  have hsum : (sumQ n fun b => (W : Rat) * absQ (x b)) = sumQ n fun b => sumQ n fun a => absQ (x a) * (P a b : Rat) := by
    rw [sumQ_comm (fun b a => absQ (x a) * (P a b : Rat))]
    refine sumQ_congr fun a ha => ?_
    rw [sumQ_mul, c.row a ha, Rat.mul_comm]
  exact fun b hb => (sumQ_eq hle hsum b hb).symm
theorem stat_zero {n : Nat} {P : Nat → Nat → Nat} {W : Nat} {C : List Nat} (c : Chain n P W) (hC : closedC n P = [C]) {x : Nat → Rat} (hs : Stat n P W x) (h0 : sumQ n x = 0) : ∀ a, a < n → x a = 0 := by
  have ha := stat_abs c hs
  have su : Stat n P W fun a => absQ (x a) + (-1) * x a := fun b hb => by
    have e : (sumQ n fun a => (absQ (x a) + (-1) * x a) * (P a b : Rat)) = sumQ n fun a => absQ (x a) * (P a b : Rat) + (-1) * (x a * (P a b : Rat)) := sumQ_congr fun a _ => by grind
    rw [e, sumQ_add, sumQ_mul, ha b hb, hs b hb]
    grind
  have sv : Stat n P W fun a => absQ (x a) + x a := fun b hb => by
    have e : (sumQ n fun a => (absQ (x a) + x a) * (P a b : Rat)) = sumQ n fun a => absQ (x a) * (P a b : Rat) + x a * (P a b : Rat) := sumQ_congr fun a _ => by grind
    rw [e, sumQ_add, ha b hb, hs b hb]
    grind
  have nu : ∀ a, a < n → 0 ≤ absQ (x a) + (-1) * x a := fun a _ => by have := absQ_ge (x a); grind
  have nv : ∀ a, a < n → 0 ≤ absQ (x a) + x a := fun a _ => by have := absQ_ge' (x a); grind
  obtain ⟨m, hm, _, hmC, _⟩ := closed_in (n := n) (P := P) (C := C) (by rw [hC]; exact List.mem_singleton.mpr rfl)
  have hcome := fun a ha => one_closed hC a ha m hmC
  -- not both signs
  by_cases hpos : ∃ a, a < n ∧ 0 < absQ (x a) + x a
  · obtain ⟨a, ha1, ha2⟩ := hpos
    have hxm := stat_sup c.pos sv nv ha1 ha2 (hcome a ha1)
    have hle : ∀ b, b < n → 0 ≤ x b := fun b hb => Classical.byContradiction fun hn => by
      have hb2 : 0 < absQ (x b) + (-1) * x b := by have := absQ_nonneg (x b); grind
      have hxm2 := stat_sup c.pos su nu hb hb2 (hcome b hb)
      unfold absQ at hxm hxm2
      grind
    exact fun b hb => (sumQ_eq (f := fun _ => 0) (g := x) hle (by rw [sumQ_zero fun _ _ => rfl, h0]) b hb).symm
  · have hle : ∀ b, b < n → x b ≤ 0 := fun b hb => Classical.byContradiction fun hn => hpos ⟨b, hb, by have := absQ_nonneg (x b); grind⟩
    exact fun b hb => sumQ_eq (f := x) (g := fun _ => 0) hle (by rw [sumQ_zero fun _ _ => rfl, h0]) b hb
theorem stat_one {n : Nat} {P : Nat → Nat → Nat} {W : Nat} {C : List Nat} (c : Chain n P W) (hC : closedC n P = [C]) {x y : Nat → Rat} (hx : Stat n P W x) (hy : Stat n P W y) (h1 : sumQ n x = 1) (h2 : sumQ n y = 1) : ∀ a, a < n → x a = y a := fun a ha => by
  have := stat_zero c hC (x := fun a => x a + (-1) * y a) (fun b hb => ?_) (by rw [sumQ_add, sumQ_mul, h1, h2]; grind) a ha
  · have h3 : x a + (-1) * y a = 0 := this
    grind
  · have e : (sumQ n fun a => (x a + (-1) * y a) * (P a b : Rat)) = sumQ n fun a => x a * (P a b : Rat) + (-1) * (y a * (P a b : Rat)) := sumQ_congr fun a _ => by grind
    rw [e, sumQ_add, sumQ_mul, hx b hb, hy b hb]
    grind
/-- values at some places, 0 elsewhere -/
def spread (C : List Nat) (v : Nat → Rat) (a : Nat) : Rat := sumQ C.length fun j => if C.getD j 0 = a then v j else 0
theorem spread_sum {C : List Nat} {n : Nat} (hC : ∀ a ∈ C, a < n) (v : Nat → Rat) (g : Nat → Rat) : (sumQ n fun a => spread C v a * g a) = sumQ C.length fun j => v j * g (C.getD j 0) := by
  have e : (sumQ n fun a => spread C v a * g a) = sumQ n fun a => sumQ C.length fun j => if C.getD j 0 = a then v j * g a else 0 := sumQ_congr fun a _ => by
    unfold spread
    rw [Rat.mul_comm, ← sumQ_mul]
    refine sumQ_congr fun j _ => ?_
    split
    · rw [Rat.mul_comm]
    · exact Rat.mul_zero _
  rw [e, sumQ_comm]
  refine sumQ_congr fun j hj => ?_
  have hm : C.getD j 0 < n := hC _ (List.mem_of_getElem? (at_getD hj))
  rw [sumQ_one hm fun a _ hne => if_neg fun z => hne z.symm, if_pos rfl]
theorem spread_at {C : List Nat} (nd : C.Nodup) {j : Nat} (hj : j < C.length) (v : Nat → Rat) : spread C v (C.getD j 0) = v j := by
  unfold spread
  rw [sumQ_one hj fun i hi hne => if_neg fun z => hne ?_, if_pos rfl]
  have h1 := at_getD (d := 0) hi
  have h2 := at_getD (d := 0) hj
  rw [z] at h1
  exact (List.getElem?_inj hi nd).mp (h1.trans h2.symm)
theorem spread_off {C : List Nat} {a : Nat} (h : a ∉ C) (v : Nat → Rat) : spread C v a = 0 := sumQ_zero fun j hj => if_neg fun z => h (by rw [← z]; exact List.mem_of_getElem? (at_getD hj))
/-- stationary on a closed set, but for one place: stationary everywhere -/
theorem stat_spread {n : Nat} {P : Nat → Nat → Nat} {W : Nat} {C : List Nat} (c : Chain n P W) (hC : ∀ a ∈ C, a < n) (nd : C.Nodup) (hcl : ∀ a ∈ C, ∀ b, b < n → 0 < P a b → b ∈ C) {v : Nat → Rat}
    (h : ∀ i, i + 1 < C.length → (sumQ C.length fun j => v j * ((P (C.getD j 0) (C.getD (i + 1) 0) : Rat) - (W : Rat) * (if C.getD j 0 = C.getD (i + 1) 0 then 1 else 0))) = 0) : Stat n P W (spread C v) := by
  have eq1 : ∀ b, (sumQ C.length fun j => v j * ((P (C.getD j 0) b : Rat) - (W : Rat) * (if C.getD j 0 = b then 1 else 0))) = (sumQ n fun a => spread C v a * (P a b : Rat)) + (-(W : Rat)) * spread C v b := fun b => by
    rw [spread_sum hC v (fun a => (P a b : Rat))]
    unfold spread
    rw [← sumQ_mul, ← sumQ_add]
    refine sumQ_congr fun j _ => ?_
    split <;> grind
  have off : ∀ b, b < n → b ∉ C → (sumQ n fun a => spread C v a * (P a b : Rat)) = (W : Rat) * spread C v b := fun b hb hnb => by
    rw [spread_off hnb, spread_sum hC v (fun a => (P a b : Rat))]
    rw [sumQ_zero fun j hj => by
      have hm := List.mem_of_getElem? (at_getD (d := 0) hj)
      have : P (C.getD j 0) b = 0 := Nat.eq_zero_of_not_pos fun hp => hnb (hcl _ hm b hb hp)
      rw [this]
      exact Rat.mul_zero _]
    exact (Rat.mul_zero _).symm
  have later : ∀ i, i + 1 < C.length → (sumQ n fun a => spread C v a * (P a (C.getD (i + 1) 0) : Rat)) = (W : Rat) * spread C v (C.getD (i + 1) 0) := fun i hi => by
    have := h i hi
    rw [eq1] at this
    grind
  intro b hb
  by_cases hbC : b ∈ C
  · obtain ⟨i, hi⟩ := List.mem_iff_getElem?.mp hbC
    have hil := (List.getElem?_eq_some_iff.mp hi).1
    have eb : C.getD i 0 = b := getD_eq hi
    cases i with
    | succ i => rw [← eb]; exact later i hil
    | zero =>
      -- the sum of all
      have hall : (sumQ n fun b => (sumQ n fun a => spread C v a * (P a b : Rat)) + (-(W : Rat)) * spread C v b) = 0 := by
        rw [sumQ_add, sumQ_mul, sumQ_comm (fun b a => spread C v a * (P a b : Rat))]
        have : (sumQ n fun a => sumQ n fun b => spread C v a * (P a b : Rat)) = sumQ n fun a => (W : Rat) * spread C v a := sumQ_congr fun a ha => by
          rw [sumQ_mul, c.row a ha, Rat.mul_comm]
        rw [this, sumQ_mul]
        grind
      rw [sumQ_one hb fun b' hb' hne => ?_] at hall
      · grind
      · by_cases hm : b' ∈ C
        · obtain ⟨i', hi'⟩ := List.mem_iff_getElem?.mp hm
          have hil' := (List.getElem?_eq_some_iff.mp hi').1
          have eb' : C.getD i' 0 = b' := getD_eq hi'
          cases i' with
          | zero => exact absurd (eb'.symm.trans eb) hne
          | succ i' => rw [← eb', later i' hil']; grind
        · rw [off b' hb' hm]; grind
  · exact off b hb hbC
end El

set_option linter.all false
set_option maxRecDepth 100000
set_option maxHeartbeats 4000000
namespace El
/-! ### the resting row -/
theorem sumQ_cons (f : Nat → Rat) : ∀ n, sumQ (n + 1) f = f 0 + sumQ n fun i => f (i + 1)
  | 0 => by show (0 : Rat) + f 0 = f 0 + 0; grind
  | n + 1 => by
    show sumQ (n + 1) f + f (n + 1) = f 0 + ((sumQ n fun i => f (i + 1)) + f (n + 1))
    rw [sumQ_cons f n]
    grind
theorem sumQ_list : ∀ r : List Nat, (sumQ r.length fun b => (r.getD b 0 : Rat)) = (r.sum : Rat)
  | [] => rfl
  | a :: r => by
    show sumQ (r.length + 1) _ = _
    rw [sumQ_cons]
    show (a : Rat) + (sumQ r.length fun i => (r.getD i 0 : Rat)) = _
    rw [sumQ_list r, List.sum_cons]
    have : ((a + r.sum : Nat) : Rat) = (a : Rat) + (r.sum : Rat) := by
      have := Rat.intCast_add (a : Int) (r.sum : Int)
      exact this
    rw [this]
theorem sum_ge : ∀ {r : List Nat} {x : Nat}, x ∈ r → x ≤ r.sum
  | a :: r, x, h => by
    rw [List.sum_cons]
    rcases List.mem_cons.mp h with rfl | h
    · omega
    · have := sum_ge h; omega
def restRows (P : Nat → Nat → Nat) (W : Nat) (C : List Nat) : List (List Int) := (C.tail.map fun to => (C.map fun p => (P p to : Int) - (W : Int) * (if p = to then 1 else 0)) ++ [0]) ++ [(C.map fun _ => (1 : Int)) ++ [1]]
section
variable {P : Nat → Nat → Nat} {W : Nat} {C : List Nat}
theorem rest_len (h : C ≠ []) : (restRows P W C).length = C.length := by
  unfold restRows
  rw [List.length_append, List.length_map, List.length_tail]
  have := List.length_pos_iff.mpr h
  show C.length - 1 + 1 = _
  omega
theorem rest_wide {r : List Int} (h : r ∈ restRows P W C) : r.length = C.length + 1 := by
  unfold restRows at h
  rcases List.mem_append.mp h with h | h
  · obtain ⟨to, _, rfl⟩ := List.mem_map.mp h
    rw [List.length_append, List.length_map]
    rfl
  · rw [List.mem_singleton.mp h, List.length_append, List.length_map]
    rfl
theorem tail_at {i : Nat} (hi : i + 1 < C.length) : C.tail[i]? = some (C.getD (i + 1) 0) := by
  rw [List.getElem?_tail]
  exact at_getD hi
theorem rest_row {i : Nat} (hi : i + 1 < C.length) : (restRows P W C).getD i [] = (C.map fun p => (P p (C.getD (i + 1) 0) : Int) - (W : Int) * (if p = C.getD (i + 1) 0 then 1 else 0)) ++ [0] := by
  refine getD_eq ?_
  unfold restRows
  rw [List.getElem?_append_left (by rw [List.length_map, List.length_tail]; omega), List.getElem?_map, tail_at hi]
  rfl
theorem rest_last (h : C ≠ []) : (restRows P W C).getD (C.length - 1) [] = (C.map fun _ => (1 : Int)) ++ [1] := by
  refine getD_eq ?_
  unfold restRows
  rw [List.getElem?_append_right (by rw [List.length_map, List.length_tail]; exact Nat.le_refl _), List.length_map, List.length_tail, Nat.sub_self]
  rfl
theorem app_at {f : Nat → Int} {z : Int} {j : Nat} (hj : j < C.length) : (C.map f ++ [z]).getD j 0 = f (C.getD j 0) := by
  refine getD_eq ?_
  rw [List.getElem?_append_left (by rw [List.length_map]; exact hj), List.getElem?_map, at_getD hj]
  rfl
theorem app_last {f : Nat → Int} {z : Int} : (C.map f ++ [z]).getD C.length 0 = z := by
  refine getD_eq ?_
  rw [List.getElem?_append_right (by rw [List.length_map]; exact Nat.le_refl _), List.length_map, Nat.sub_self]
  rfl
end
theorem rest_bits {c : Nat} (h : c ≤ 32) : c ^ c * 1000000 ^ c < 2 ^ 4000 := by
  have h1 : c ^ c ≤ 32 ^ 32 := Nat.le_trans (Nat.pow_le_pow_left h c) (Nat.pow_le_pow_right (by omega) h)
  have h2 : 1000000 ^ c ≤ (2 ^ 20) ^ 32 := Nat.le_trans (Nat.pow_le_pow_left (show 1000000 ≤ 2 ^ 20 by decide) c) (Nat.pow_le_pow_right (by decide) h)
  have h3 : 32 ^ 32 * (2 ^ 20) ^ 32 = 2 ^ 800 := by
    rw [show (32 : Nat) = 2 ^ 5 by decide, ← Nat.pow_mul, ← Nat.pow_mul, ← Nat.pow_add]
  have h4 : 2 ^ 800 < 2 ^ 4000 := Nat.pow_lt_pow_right (by decide) (by decide)
  have := Nat.mul_le_mul h1 h2
  omega
theorem castI (k : Nat) : (((k : Nat) : Int) : Rat) = ((k : Nat) : Rat) := rfl
theorem rest_solv {n : Nat} {P : Nat → Nat → Nat} {W : Nat} {C : List Nat} (c : Chain n P W) (hn : n ≤ 32) (hW : W ≤ 1000000) (hP : ∀ a b, a < n → b < n → P a b ≤ W) (hC : closedC n P = [C]) : Solv (restRows P W C) (C.length + 1) 1000000 := by
  obtain ⟨m, hm, hCm, hmC, hall⟩ := closed_in (n := n) (P := P) (C := C) (by rw [hC]; exact List.mem_singleton.mpr rfl)
  have hne : C ≠ [] := List.ne_nil_of_mem hmC
  have hlt : ∀ a ∈ C, a < n := fun a ha => by rw [hCm] at ha; exact rch_lt hm ((mem_reach hm).mp ha)
  have hnd : C.Nodup := by rw [hCm]; exact List.nodup_range.filter _
  have hlen : C.length ≤ n := by
    rw [hCm]
    unfold reachC
    refine Nat.le_trans (List.length_filter_le _ _) (by rw [List.length_range]; exact Nat.le_refl _)
  have hlen2 := rest_len (P := P) (W := W) hne
  have hpos := List.length_pos_iff.mpr hne
  have hcl : ∀ a ∈ C, ∀ b, b < n → 0 < P a b → b ∈ C := fun a ha b hb hp => by
    rw [← hall a ha]
    exact (mem_reach (hlt a ha)).mpr ((Rch.refl a).step ⟨hb, hp⟩)
  refine ⟨fun r hr => rest_wide hr, by omega, by omega, by omega, by decide, fun j i hj hi => ?_, by rw [hlen2]; exact rest_bits (by omega), fun x hx => ?_⟩
  · rw [hlen2] at hi
    unfold mxOf
    by_cases h : i + 1 < C.length
    · rw [rest_row h]
      by_cases h2 : j < C.length
      · rw [app_at h2]
        have := hP _ (C.getD (i + 1) 0) (hlt _ (List.mem_of_getElem? (at_getD (d := 0) h2))) (hlt _ (List.mem_of_getElem? (at_getD (d := 0) h)))
        split <;> omega
      · rw [show j = C.length by omega, app_last]; decide
    · rw [show i = C.length - 1 by omega, rest_last hne]
      by_cases h2 : j < C.length
      · rw [app_at h2]; decide
      · rw [show j = C.length by omega, app_last]; decide
  · rw [hlen2] at hx ⊢
    have hst := stat_spread c hlt hnd hcl (v := fun j => (x j : Rat)) fun i hi => by
      have := hx i (by omega)
      have h2 : ((sumN C.length fun c => mxOf (restRows P W C) c i * x c : Int) : Rat) = ((0 : Int) : Rat) := by rw [this]
      rw [← sumQ_int] at h2
      refine (sumQ_congr fun j hj => ?_).trans (h2.trans rfl)
      have e : mxOf (restRows P W C) j i = (P (C.getD j 0) (C.getD (i + 1) 0) : Int) - (W : Int) * (if C.getD j 0 = C.getD (i + 1) 0 then 1 else 0) := by
        unfold mxOf
        rw [rest_row hi, app_at hj]
      rw [e, Rat.intCast_mul, Rat.intCast_sub, Rat.intCast_mul, castI, castI, Rat.mul_comm]
      congr 2
      split <;> rfl
    have hsum : sumQ n (spread C fun j => (x j : Rat)) = 0 := by
      have h1 := spread_sum hlt (fun j => (x j : Rat)) fun _ => 1
      have e1 : (sumQ n fun a => spread C (fun j => (x j : Rat)) a * 1) = sumQ n (spread C fun j => (x j : Rat)) := sumQ_congr fun a _ => Rat.mul_one _
      rw [e1] at h1
      rw [h1]
      have := hx (C.length - 1) (by omega)
      have h2 : ((sumN C.length fun c => mxOf (restRows P W C) c (C.length - 1) * x c : Int) : Rat) = ((0 : Int) : Rat) := by rw [this]
      rw [← sumQ_int] at h2
      refine (sumQ_congr fun j hj => ?_).trans (h2.trans rfl)
      have e : mxOf (restRows P W C) j (C.length - 1) = 1 := by
        unfold mxOf
        rw [rest_last hne, app_at hj]
      rw [e, Int.one_mul, Rat.mul_one]
    intro j hj
    have := stat_zero c hC hst hsum (C.getD j 0) (hlt _ (List.mem_of_getElem? (at_getD hj)))
    rw [spread_at hnd hj] at this
    exact Rat.intCast_inj.mp (by rw [this]; rfl)
/-- the resting row -/
noncomputable def restW (n : Nat) (P : Nat → Nat → Nat) (W : Nat) (C : List Nat) : List Rat := (List.range n).map (spread C fun j => ((solR (restRows P W C) (C.length + 1)).getD j []).getD 0 0)
theorem rest_facts {n : Nat} {P : Nat → Nat → Nat} {W : Nat} {C : List Nat} (c : Chain n P W) (hn : n ≤ 32) (hW : W ≤ 1000000) (hP : ∀ a b, a < n → b < n → P a b ≤ W) (hC : closedC n P = [C]) :
    Stat n P W (fun a => (restW n P W C).getD a 0) ∧ sumQ n (fun a => (restW n P W C).getD a 0) = 1 := by
  have sv := rest_solv c hn hW hP hC
  obtain ⟨s1, s2, s3⟩ := solR_sol sv
  obtain ⟨m, hm, hCm, hmC, hall⟩ := closed_in (n := n) (P := P) (C := C) (by rw [hC]; exact List.mem_singleton.mpr rfl)
  have hne : C ≠ [] := List.ne_nil_of_mem hmC
  have hlt : ∀ a ∈ C, a < n := fun a ha => by rw [hCm] at ha; exact rch_lt hm ((mem_reach hm).mp ha)
  have hnd : C.Nodup := by rw [hCm]; exact List.nodup_range.filter _
  have hlen2 := rest_len (P := P) (W := W) hne
  have hpos := List.length_pos_iff.mpr hne
  have hcl : ∀ a ∈ C, ∀ b, b < n → 0 < P a b → b ∈ C := fun a ha b hb hp => by
    rw [← hall a ha]
    exact (mem_reach (hlt a ha)).mpr ((Rch.refl a).step ⟨hb, hp⟩)
  rw [hlen2] at s3
  have hst := stat_spread c hlt hnd hcl (v := fun j => ((solR (restRows P W C) (C.length + 1)).getD j []).getD 0 0) fun i hi => by
    have := s3 i 0 (by omega) (by omega)
    have er : mxOf (restRows P W C) (C.length + 0) i = 0 := by
      unfold mxOf
      rw [rest_row hi]; exact app_last
    rw [er] at this
    refine (sumQ_congr fun j hj => ?_).trans (this.trans rfl)
    have e : mxOf (restRows P W C) j i = (P (C.getD j 0) (C.getD (i + 1) 0) : Int) - (W : Int) * (if C.getD j 0 = C.getD (i + 1) 0 then 1 else 0) := by
      unfold mxOf
      rw [rest_row hi, app_at hj]
    rw [e, Rat.intCast_sub, Rat.intCast_mul, castI, castI, Rat.mul_comm]
    congr 3
    split <;> rfl
  have hsum : sumQ n (spread C fun j => ((solR (restRows P W C) (C.length + 1)).getD j []).getD 0 0) = 1 := by
    have h1 := spread_sum hlt (fun j => ((solR (restRows P W C) (C.length + 1)).getD j []).getD 0 0) fun _ => 1
    have e1 : (sumQ n fun a => spread C (fun j => ((solR (restRows P W C) (C.length + 1)).getD j []).getD 0 0) a * 1) = sumQ n (spread C fun j => ((solR (restRows P W C) (C.length + 1)).getD j []).getD 0 0) := sumQ_congr fun a _ => Rat.mul_one _
    rw [e1] at h1
    rw [h1]
    have := s3 (C.length - 1) 0 (by omega) (by omega)
    have er : mxOf (restRows P W C) (C.length + 0) (C.length - 1) = 1 := by
      unfold mxOf
      rw [rest_last hne]; exact app_last
    rw [er] at this
    refine (sumQ_congr fun j hj => ?_).trans (this.trans rfl)
    have e : mxOf (restRows P W C) j (C.length - 1) = 1 := by
      unfold mxOf
      rw [rest_last hne, app_at hj]
    rw [e, Rat.mul_one, show ((1 : Int) : Rat) = 1 from rfl, Rat.one_mul]
  have eg : ∀ a, a < n → (restW n P W C).getD a 0 = spread C (fun j => ((solR (restRows P W C) (C.length + 1)).getD j []).getD 0 0) a := fun a ha => getD_range ha
  refine ⟨fun b hb => ?_, ?_⟩
  · show _ = (W : Rat) * (restW n P W C).getD b 0
    rw [eg b hb, ← hst b hb]
    exact sumQ_congr fun a ha => by show (restW n P W C).getD a 0 * _ = _; rw [eg a ha]
  · rw [← hsum]
    exact sumQ_congr fun a ha => eg a ha
end El

set_option Elab.async false
set_option linter.all false
set_option maxRecDepth 100000
set_option maxHeartbeats 4000000
namespace El
open PySem PySem.Spec L2
/-! ### great numbers, shares -/
def CDivZ (_ j : Int) : Prop := j ≠ 0 ∧ j.natAbs.log2 < 9000
theorem op_fdivZ {X : Cx} : OpR X (binaryOp .FloorDiv) (rI CDivZ fun i j => .int (i.fdiv j)) := opI fun _ _ _ _ _ _ _ hc q => PyProof.Rows.floordiv_int hc.1 q (.inl (PyProof.noPylong_of_log2 hc.2))
theorem divZ {i j : Int} {b : Nat} (h : j ≠ 0) (hb : j.natAbs < 2 ^ b) (h0 : 0 < b) (h9 : b ≤ 9000) : CDivZ i j := ⟨h, Nat.lt_of_lt_of_le (PySem.Flt.log2_lt_of h0 hb) h9⟩
theorem share_num {n d : Int} (hd : d ≠ 0) : n.fdiv (if d < 0 then 0 - (Int.gcd n d : Int) else (Int.gcd n d : Int)) = (Rat.divInt n d).num ∧ d.fdiv (if d < 0 then 0 - (Int.gcd n d : Int) else (Int.gcd n d : Int)) = ((Rat.divInt n d).den : Int) := by
  have hg0 : Int.gcd n d ≠ 0 := fun z => hd (Int.gcd_eq_zero_iff.mp z).2
  have h1 : (Int.gcd n d : Int) ∣ n := Int.gcd_dvd_left ..
  have h2 : (Int.gcd n d : Int) ∣ d := Int.gcd_dvd_right ..
  have e : Int.gcd d n = Int.gcd n d := Int.gcd_comm _ _
  rw [Rat.num_divInt, Rat.den_divInt, e, if_neg hd]
  generalize Int.gcd n d = g at *
  obtain ⟨a, rfl⟩ := h1
  obtain ⟨b, rfl⟩ := h2
  have hg : (0 : Int) < g := by omega
  have hb : b ≠ 0 := fun z => hd (by rw [z, Int.mul_zero])
  by_cases h : b < 0
  · have h0 : (g : Int) * b < 0 := Int.mul_neg_of_pos_of_neg hg h
    rw [if_pos h0]
    have s : ((g : Int) * b).sign = -1 := Int.sign_eq_neg_one_of_neg h0
    rw [s]
    have d1 : (0 - (g : Int)) ∣ g * a := ⟨-a, by grind⟩
    have d2 : (0 - (g : Int)) ∣ g * b := ⟨-b, by grind⟩
    rw [Int.fdiv_eq_ediv_of_dvd d1, Int.fdiv_eq_ediv_of_dvd d2]
    refine ⟨?_, ?_⟩
    · rw [show (0 - (g : Int)) = -g by omega, Int.ediv_neg, Int.mul_ediv_cancel_left _ (by omega), show (-1 : Int) * (g * a) = g * (-a) by grind, Int.mul_ediv_cancel_left _ (by omega)]
    · rw [show (0 - (g : Int)) = -g by omega, Int.ediv_neg, Int.mul_ediv_cancel_left _ (by omega), Int.natAbs_mul, Int.natAbs_natCast, Nat.mul_div_cancel_left _ (by omega)]
      omega
  · have h0 : ¬ (g : Int) * b < 0 := by
      have : 0 ≤ (g : Int) * b := Int.mul_nonneg (by omega) (by omega)
      omega
    rw [if_neg h0]
    have s : ((g : Int) * b).sign = 1 := Int.sign_eq_one_of_pos (Int.mul_pos hg (by omega))
    rw [s, Int.one_mul, Int.fdiv_eq_ediv_of_dvd ⟨a, rfl⟩, Int.fdiv_eq_ediv_of_dvd ⟨b, rfl⟩, Int.mul_ediv_cancel_left _ (by omega), Int.mul_ediv_cancel_left _ (by omega), Int.natAbs_mul, Int.natAbs_natCast, Nat.mul_div_cancel_left _ (by omega)]
    exact ⟨rfl, by omega⟩
theorem gcd_step {a b : Int} : Int.gcd b (a.fmod b) = Int.gcd a b := by
  rw [Int.fmod_def, Int.mul_comm, Int.gcd_sub_mul_right_right, Int.gcd_comm]
theorem fmod_lt {a b : Int} (h : b ≠ 0) : (a.fmod b).natAbs < b.natAbs := by
  by_cases hb : 0 < b
  · have h1 := Int.fmod_lt_of_pos a hb
    have h2 := Int.fmod_nonneg_of_pos a hb
    omega
  · rw [Int.fmod_eq_emod]
    have h1 := Int.emod_lt_of_pos a (show 0 < -b by omega)
    rw [Int.emod_neg] at h1
    have h2 := Int.emod_nonneg a h
    split
    · omega
    · rename_i z
      have : a % b ≠ 0 := fun z2 => z (.inr (Int.dvd_of_emod_eq_zero z2))
      omega
section
variable {K : PySem.W.Frag} {σ : St} {F H F' H' : Hp} {ta tb tc td te tl : TE} {α β γ : Type} {R : Rp α} {S : Rp β} {x : α} {y : β} {xs : List α} {D : Ends} {E : XK} {i j : Int} {C : Addr}
theorem ev_fdivZ (ha : Ev rInt ta σ F H i) (hb : Ev rInt tb σ F H j) (hc : CDivZ i j) : Ev rInt (tOp (rI CDivZ fun i j => .int (i.fdiv j)) ta tb) σ F H (i.fdiv j) := ev_I ha hb hc fun _ => rfl
theorem ev_modN (ha : Ev rInt ta σ F H i) (hb : Ev rInt tb σ F H j) (hc : j ≠ 0) : Ev rInt (tOp (rI (fun _ j => j ≠ 0) fun i j => .int (i.fmod j)) ta tb) σ F H (i.fmod j) := ev_I ha hb hc fun _ => rfl
theorem ev_abs (ha : Ev rInt ta σ F H i) : Ev rInt (tCB (fun xs H Q => ∃ i, xs = [.int i] ∧ Q (.int (if i < 0 then -i else i)) H) (tCons ta tNil)) σ F H (i.natAbs : Int) := fun F1 H1 g1 Q q =>
  ha F1 H1 g1 _ fun v F2 H2 g2 r => ⟨i, by rw [show v = _ from r], q _ F2 H2 g2 (by
    show V.int _ = V.int _
    split
    · rw [show (i.natAbs : Int) = -i by omega]
    · rw [show (i.natAbs : Int) = i by omega])⟩
/-- x, y = e1, e2 -/
theorem x_par {a b : Nat} (e : Ex F H) (ha : Ev R ta σ F H x) (hb : Ev S tb σ F H y) (k : ∀ v w F' H', Gr M0 F H F' H' → R F' v x → S F' w y → D.nx ((σ.set a (some v)).set b (some w)) H') (m : Mn R := by infer_instance) : tPar a b (tCons ta (tCons tb tNil)) D σ H :=
  ha F H (.refl e) _ fun v F1 H1 g1 r1 => hb F1 H1 g1 _ fun w F2 H2 g2 r2 => ⟨v, w, rfl, k v w F2 H2 (g1.trans g2) (m.mono g2.ff r1) r2⟩
/-- xs[p], xs[q] = e1, e2: of a list that may change -/
theorem x_swapI {to1 to2 tp tq : TE} {l : Addr} {vs : List V} {p q : Nat} (e : Ex F H) (ha : Ev R ta σ F H x) (hb : Ev S tb σ F H y) (fl : F l = none) (hl : H l = some (.lst vs)) (hp : p < vs.length) (hq : q < vs.length)
    (ho1 : ∀ H1 Q, (Q (.ref l) H1 → to1 σ H1 Q)) (hi1 : ∀ H1 Q, (Q (.int (p : Int)) H1 → tp σ H1 Q)) (ho2 : ∀ H1 Q, (Q (.ref l) H1 → to2 σ H1 Q)) (hi2 : ∀ H1 Q, (Q (.int (q : Int)) H1 → tq σ H1 Q))
    (k : ∀ v w F' H', Gr M0 F H F' H' → R F' v x → S F' w y → H' l = some (.lst vs) → D.nx σ (upd (upd H' l (.lst (vs.set p v))) l (.lst ((vs.set p v).set q w)))) (m : Mn R := by infer_instance) (n : Mn S := by infer_instance) :
    tAsg (tTup (tCons ta (tCons tb tNil))) (gTup K 2 (gCons (gSub to1 tp rSetL) (gCons (gSub to2 tq rSetL) gNil))) D σ H :=
  ha F H (.refl e) _ fun v F1 H1 g1 r1 => hb F1 H1 g1 _ fun w F2 H2 g2 r2 => ⟨by show 2 ≤ sizeLine; decide, fun B hB => by
    have g3 : Gr M0 F2 H2 (upd F2 B (.tup [v, w])) (upd H2 B (.tup [v, w])) := .new g2.fh hB
    have g := g1.trans (g2.trans g3)
    have h3 := g.hx _ _ hl
    have ix : ∀ {n k : Nat}, k < n → ixN n (k : Int) = some k := fun {n k} h => by
      unfold ixN
      rw [if_pos (by omega), if_pos (by omega)]
      rfl
    refine ⟨B, [v, w], rfl, SqT.of upd_same, rfl, v, [w], rfl, ?_⟩
    refine ho1 _ _ (hi1 _ _ ⟨l, vs, (p : Int), p, rfl, rfl, h3, ix hp, ?_⟩)
    refine ⟨w, [], rfl, ?_⟩
    refine ho2 _ _ (hi2 _ _ ⟨l, _, (q : Int), q, rfl, rfl, upd_same, ix (by rw [List.length_set]; exact hq), ?_⟩)
    exact ⟨rfl, k v w _ _ g (m.mono (g2.ff.trans g3.ff) r1) (n.mono g3.ff r2) h3⟩⟩
/-! shares -/
def rShare (C : Addr) : Rp Rat := fun H v r => ∃ a dx, v = .ref a ∧ H a = some (.ins C dx [("top", .int r.num), ("bottom", .int (r.den : Int))])
instance : Mn (rShare C) := ⟨fun e ⟨a, dx, h1, h2⟩ => ⟨a, dx, h1, e _ _ h2⟩⟩
instance : NotN (rShare C) := ⟨fun ⟨_, _, h, _⟩ e => by rw [h] at e; cases e⟩
theorem fld_top (c : Cls K C) (n : NoAttr K C "top") : IsF (rShare C) K "top" rInt Rat.num := ⟨fun ⟨a, dx, h1, h2⟩ => ⟨a, C, dx, _, _, h1, h2, c, n, rfl, rfl⟩⟩
theorem fld_bottom (c : Cls K C) (n : NoAttr K C "bottom") : IsF (rShare C) K "bottom" rNat Rat.den := ⟨fun ⟨a, dx, h1, h2⟩ => ⟨a, C, dx, _, _, h1, h2, c, n, rfl, rfl⟩⟩
def SpShare (C : Addr) : Sp := fun vs H Q _ => ∃ (F : Hp) (a dx : Addr) (n d : Int), vs = [.ref a, .int n, .int d] ∧ Ex F H ∧ F a = none ∧ H a = some (.ins C dx []) ∧ d ≠ 0 ∧ d.natAbs < 2 ^ 9000 ∧
  ∀ F' H', Gr (M1 a) F H F' H' → rShare C F' (.ref a) (Rat.divInt n d) → Q .non H'
instance : SpLen (SpShare C) 3 := ⟨fun ⟨_, _, _, _, _, h, _⟩ => by rw [h]; rfl⟩
theorem ev_Share {n d : Int} (ha : Ev rInt ta σ F H n) (hb : Ev rInt tb σ F H d) (hd : d ≠ 0) (hz : d.natAbs < 2 ^ 9000) : Ev (rShare C) (tMake C (SpShare C) [] E (tCons ta (tCons tb tNil))) σ F H (Rat.divInt n d) := fun F1 H1 g1 Q q =>
  ha F1 H1 g1 _ fun v F2 H2 g2 r => hb F2 H2 (g1.trans g2) _ fun w F3 H3 g3 r3 => fun x dx nx ndx nex => by
    cases (show v = _ from r)
    cases (show w = _ from r3)
    have e1 : Ex F3 (upd (upd H3 dx (.own x)) x (.ins C dx [])) := (g3.fh.mut (g3.fh.free ndx)).mut (g3.fh.free nx)
    exact ⟨F3, x, dx, n, d, rfl, e1, g3.fh.free nx, upd_same, hd, hz, fun F' H' g k => ⟨rfl, q _ F' H' ((g2.trans g3).trans (.made (M := M0) nx ndx nex.symm g)) k⟩⟩
theorem rat_int (n : Int) : Rat.divInt n 1 = (n : Rat) := by rw [Rat.divInt_eq_div]; grind
theorem ev_Share1 {n : Int} (ha : Ev rInt ta σ F H n) : Ev (rShare C) (tMake C (SpShare C) [.int 1] E (tCons ta tNil)) σ F H (n : Rat) := fun F1 H1 g1 Q q =>
  ha F1 H1 g1 _ fun v F2 H2 g2 r => fun x dx nx ndx nex => by
    cases (show v = _ from r)
    have e1 : Ex F2 (upd (upd H2 dx (.own x)) x (.ins C dx [])) := (g2.fh.mut (g2.fh.free ndx)).mut (g2.fh.free nx)
    exact ⟨F2, x, dx, n, 1, rfl, e1, g2.fh.free nx, upd_same, by decide, Nat.lt_of_le_of_lt (show (1 : Int).natAbs ≤ 2 ^ 0 by decide) (Nat.pow_lt_pow_right (by decide) (by decide)), fun F' H' g k => ⟨rfl, q _ F' H' (g2.trans (.made (M := M0) nx ndx nex.symm g)) (by rw [← rat_int]; exact k)⟩⟩
def RShr (C : Addr) : Addr → Addr → Hp → Prop := fun a b H => ∃ F r, Ex F H ∧ rShare C F (.ref a) r ∧ rShare C F (.ref b) r
theorem ev_neShare {r : Rat} (ha : Ev (rShare C) ta σ F H r) (hb : Ev (rShare C) tb σ F H r) : Ev rBl (tOp (rNeG (DIns C (RShr C))) ta tb) σ F H false := fun F1 H1 g1 Q q =>
  ha F1 H1 g1 _ fun v F2 H2 g2 r1 => hb F2 H2 (g1.trans g2) _ fun w F3 H3 g3 r2 => by
    have r' := Mn.mono g3.ff r1
    have r3 := r'
    have r4 := r2
    obtain ⟨a, dx, rfl, h1⟩ := r3
    obtain ⟨b, dy, rfl, h3⟩ := r4
    exact ⟨⟨a, b, dx, dy, _, _, rfl, rfl, g3.fh _ _ h1, g3.fh _ _ h3, F3, r, g3.fh, r', r2⟩, fun H' x => q _ F3 H' ((g2.trans g3).trans (.ext g3.fh x)) rfl⟩
theorem ev_isShare {r : Rat} (ha : Ev (rShare C) ta σ F H r) : Ev rBl (tCB (rIsC C) (tCons ta (tCons (tC (.ref C)) tNil))) σ F H true := fun F1 H1 g1 Q q =>
  ha F1 H1 g1 _ fun v F2 H2 g2 ⟨a, dx, e, h1⟩ => ⟨a, dx, _, by rw [e], g2.fh _ _ h1, q _ F2 H2 g2 rfl⟩
end
end El
namespace El
open PySem PySem.Spec L2
/-- parameters bound, the left-off ones by their defaults -/
structure Bnd (K : PySem.W.Frag) (fd : FuncData) (ps : List Str) (dvs : List V) where
  ds : List Value
  vs : Vals dvs ds
  ok : Binds K fd ps ds
noncomputable def bnd_mk {K : PySem.W.Frag} {fd : FuncData} {ps : List Str} {dvs : List V} (h : ∃ ds, Vals dvs ds ∧ Binds K fd ps ds) : Bnd K fd ps dvs := ⟨h.choose, h.choose_spec.1, h.choose_spec.2⟩
open PyProof.Rows in
theorem _root_.L2.FunD.ok0 {P : Program} {w : World} {mg : Str → Option Value} {base : Heap} {K : PySem.W.Frag} {x qual : Str} {st : Stmt} {dvs : List V} {f : Addr} {fd : FuncData} {N ps : List Str} {k : Nat} {sp : Sp} (F : FunD K x qual (defArgs st) (defBody st) (defScope st) dvs [] f fd) (S : FnScope N ps (defScope st)) (len : ∀ vs H Q E, sp vs H Q E → vs.length = ps.length)
    (hbody : ∀ (cdv : Value) (A : Around) (outer : List Env) (s : Shared) (H : Hp) (vs : List V) (Q : VK) (E : XK), Room k (A.deeper (envOfC qual (defScope st) s.heap.objs.size f cdv)) → sp vs H Q E →
      ∃ t, PSs (cxOf CX0 P w K mg base N qual (defScope st) f cdv A outer s H E).nox (defBody st) t ∧ t { nx := fun _ H' => Q .non H', rt := Q } (L2.start N vs) H) : FnOk P w K mg base CX0 (k + 1) f fd ps sp :=
  L2.FunD.ok F S len fun cdv A outer s H vs Q E hr hsp => by
    obtain ⟨t, ht, hq⟩ := hbody cdv A outer s H vs Q E hr hsp
    exact ⟨t, ht.nox, hq⟩
end El

set_option Elab.async false
set_option linter.all false
set_option maxRecDepth 100000
set_option maxHeartbeats 4000000
namespace El
open PySem PySem.Spec L2
section
variable {K : PySem.W.Frag} {σ : St} {F H F' H' F0 H0 : Hp} {ta tb tc td te tl : TE} {α β γ : Type} {R : Rp α} {S : Rp β} {T : Rp γ} {x : α} {y : β} {xs : List α} {ys : List β} {D : Ends} {E : XK} {i j : Int} {C : Addr} {l : Addr} {vs : List V}
/-- a list that may change, handed back -/
theorem x_retM {n : Nat} {Q : VK} (g : Gr M0 F0 H0 F H) (hv : σ[n]? = some (some (.ref l))) (hl : H l = some (.lst vs)) (f0 : F0 l = none) (h0 : H0 l = none) (p : Paired (R F) vs xs) (k : ∀ F' , Gr M0 F0 H0 F' H → rLst R F' (.ref l) xs → D.rt (.ref l) H) (m : Mn R := by infer_instance) : tRet (tVar n) D σ H :=
  ⟨.ref l, hv, by
    by_cases fl : F l = none
    · exact k _ (g.frz hl f0 (.inl h0)) ⟨l, vs, rfl, upd_same, Paired.up (Ex.new fl) p⟩
    · cases q : F l with
      | none => exact absurd q fl
      | some o => exact k F g ⟨l, vs, rfl, by rw [q, ← g.fh _ _ q, hl], p⟩⟩
theorem ev_lcZm {a b : Nat} {ws : List Nat} (f : α × β → γ) (ha : Ev (rLst R) ta σ F H xs) (hb : Ev (rLst S) tb σ F H ys) (hz : xs.length ≤ 1000000) (hw : ∀ v w, wipe (((wipe σ ws).set a (some v)).set b (some w)) ws = wipe σ ws)
    (he : ∀ (n : Nat) p v w F1 H1, (xs.zip ys)[n]? = some p → Gr M0 F H F1 H1 → R F1 v p.1 → S F1 w p.2 → Ev T te (((wipe σ ws).set a (some v)).set b (some w)) F1 H1 (f p)) (m : Mn R := by infer_instance) (m2 : Mn S := by infer_instance) (m' : Mn T := by infer_instance) :
    Ev (rLst T) (tLc (iZip K (tCons ta (tCons tb tNil))) (gTup K 2 (gCons (gName a) (gCons (gName b) gNil))) tYes te ws) σ F H ((xs.zip ys).map f) :=
  ev_lcZ ha hb (by rw [List.length_map, List.length_zip]) (by rw [List.length_map, List.length_zip]; omega) hw fun n x y z v w F1 H1 hx hy hz g r1 r2 => by
    have hp : (xs.zip ys)[n]? = some (x, y) := List.getElem?_zip_eq_some.mpr ⟨hx, hy⟩
    rw [List.getElem?_map, hp] at hz
    cases hz
    exact he n (x, y) v w F1 H1 hp g r1 r2
theorem ev_mulZ {a b : Nat} (ha : Ev rInt ta σ F H i) (hb : Ev rInt tb σ F H j) (h1 : i.natAbs < 2 ^ a) (h2 : j.natAbs < 2 ^ b) (ha0 : 0 < a) (hb0 : 0 < b) (hab : a + b ≤ 1000000) : Ev rInt (tOp (rI CMulW fun i j => .int (i * j)) ta tb) σ F H (i * j) := ev_mulW ha hb (wide_mul h1 h2 ha0 hb0 hab)
end
theorem natAbs_mul_lt {i j : Int} {a b : Nat} (h1 : i.natAbs < 2 ^ a) (h2 : j.natAbs < 2 ^ b) : (i * j).natAbs < 2 ^ (a + b) := wide_lt h1 h2
/-! sums of shares -/
def addQ (xs : List Rat) : Rat := xs.foldl (· + ·) 0
theorem rat_add (a b : Rat) : a + b = Rat.divInt (a.num * b.den + b.num * a.den) ((a.den : Int) * b.den) := by
  have h1 := Rat.num_divInt_den a
  have h2 := Rat.num_divInt_den b
  have hd : ((a.den : Int)) ≠ 0 := by have := a.den_nz; omega
  have hd2 : ((b.den : Int)) ≠ 0 := by have := b.den_nz; omega
  rw [← Rat.divInt_add_divInt _ _ hd hd2, h1, h2]
/-- bounded shares -/
def ShB (r : Rat) (B : Nat) : Prop := r.num.natAbs < 2 ^ B ∧ r.den < 2 ^ B
theorem ShB.le {r : Rat} {A B : Nat} (h : ShB r A) (l : A ≤ B) : ShB r B := ⟨Nat.lt_of_lt_of_le h.1 (Nat.pow_le_pow_right (by decide) l), Nat.lt_of_lt_of_le h.2 (Nat.pow_le_pow_right (by decide) l)⟩
theorem shB_div {n d : Int} {B : Nat} (hn : n.natAbs < 2 ^ B) (hd : d.natAbs < 2 ^ B) (h0 : d ≠ 0) : ShB (Rat.divInt n d) B := by
  have hg : Int.gcd d n ≠ 0 := fun z => h0 (Int.gcd_eq_zero_iff.mp z).1
  constructor
  · rw [Rat.num_divInt]
    refine Nat.lt_of_le_of_lt ?_ hn
    have h2 : (Int.gcd d n : Int) ∣ n := Int.gcd_dvd_right ..
    obtain ⟨k, hk⟩ := h2
    have hs : d.sign.natAbs = 1 := Int.natAbs_sign_of_ne_zero h0
    generalize Int.gcd d n = g at *
    subst hk
    rw [show d.sign * ((g : Int) * k) = g * (d.sign * k) by grind, Int.mul_ediv_cancel_left _ (by omega), Int.natAbs_mul, hs, Nat.one_mul, Int.natAbs_mul, Int.natAbs_natCast]
    exact Nat.le_mul_of_pos_left _ (by omega)
  · rw [Rat.den_divInt, if_neg h0]
    exact Nat.lt_of_le_of_lt (Nat.div_le_self _ _) hd
/-- shares over one number -/
def OverD (D : Int) (B : Nat) (xs : List Rat) : Prop := D ≠ 0 ∧ ∀ x ∈ xs, ∃ p : Int, x = Rat.divInt p D ∧ p.natAbs ≤ B
theorem over_sum {D : Int} {B : Nat} : ∀ {xs : List Rat}, OverD D B xs → ∀ {s : Int}, ∃ q : Int, xs.foldl (· + ·) (Rat.divInt s D) = Rat.divInt q D ∧ q.natAbs ≤ s.natAbs + xs.length * B
  | [], _, s => ⟨s, rfl, by omega⟩
  | x :: xs, h, s => by
    obtain ⟨hD, hx⟩ := h
    obtain ⟨p, rfl, hp⟩ := hx x List.mem_cons_self
    have e : Rat.divInt s D + Rat.divInt p D = Rat.divInt (s + p) D := by
      rw [Rat.divInt_eq_div, Rat.divInt_eq_div, Rat.divInt_eq_div, Rat.intCast_add, Rat.div_def, Rat.div_def, Rat.div_def]
      grind
    obtain ⟨q, h1, h2⟩ := over_sum (xs := xs) ⟨hD, fun y hy => hx y (List.mem_cons_of_mem _ hy)⟩ (s := s + p)
    refine ⟨q, by rw [List.foldl_cons, e, h1], ?_⟩
    rw [List.length_cons, Nat.succ_mul]
    omega
theorem zero_div (D : Int) : Rat.divInt 0 D = 0 := by rw [Rat.divInt_eq_div, Rat.div_def]; show ((0 : Int) : Rat) * _ = 0; exact Rat.zero_mul _
theorem over_take {D : Int} {B : Nat} {xs : List Rat} (h : OverD D B xs) (n : Nat) : ∃ q : Int, addQ (xs.take n) = Rat.divInt q D ∧ q.natAbs ≤ xs.length * B := by
  obtain ⟨q, h1, h2⟩ := over_sum (xs := xs.take n) ⟨h.1, fun x hx => h.2 x (List.mem_of_mem_take hx)⟩ (s := 0)
  refine ⟨q, by unfold addQ; rw [← h1, zero_div], ?_⟩
  have : (xs.take n).length * B ≤ xs.length * B := Nat.mul_le_mul_right _ (List.length_take_le' ..)
  have h3 : (0 : Int).natAbs = 0 := rfl
  omega
def SumOk (xs : List Rat) : Prop := ∃ (D : Int) (B : Nat), OverD D B xs ∧ D.natAbs < 2 ^ 4000 ∧ xs.length * B < 2 ^ 4000 ∧ xs.length ≤ 100000
theorem sumOk_take {xs : List Rat} (h : SumOk xs) (n : Nat) : ShB (addQ (xs.take n)) 4000 := by
  obtain ⟨D, B, h1, h2, h3, _⟩ := h
  obtain ⟨q, e, hq⟩ := over_take h1 n
  rw [e]
  exact shB_div (by omega) h2 h1.1
theorem sumOk_at {xs : List Rat} (h : SumOk xs) {x : Rat} (hx : x ∈ xs) : ShB x 4000 := by
  obtain ⟨D, B, h1, h2, h3, _⟩ := h
  obtain ⟨p, rfl, hp⟩ := h1.2 x hx
  have : 1 ≤ xs.length := by cases xs with
    | nil => cases hx
    | cons _ _ => simp
  have hB : B ≤ xs.length * B := Nat.le_mul_of_pos_left _ (by omega)
  exact shB_div (by omega) h2 h1.1
theorem addQ_snoc {xs : List Rat} {n : Nat} {x : Rat} (h : xs[n]? = some x) : addQ (xs.take (n + 1)) = addQ (xs.take n) + x := by
  unfold addQ
  rw [List.take_add_one, h, List.foldl_append]
  rfl
end El
namespace El
open PySem PySem.Spec L2
/-! ### a comprehension within a comprehension -/
theorem relabel_look {sc : Scope} {env : Env} {y : Str} (h : sc.names.lookup y = some .cell ∨ sc.names.lookup y = some .free) : (relabel sc env).names.lookup y = some .cell ∨ (relabel sc env).names.lookup y = some .free := by
  unfold relabel
  show List.lookup y (List.map _ sc.names) = _ ∨ List.lookup y (List.map _ sc.names) = _
  revert h
  generalize sc.names = names
  induction names with
  | nil => intro h; exact h
  | cons p names ih =>
    obtain ⟨n, k⟩ := p
    intro h
    by_cases e : (y == n) = true
    · have hk : k = .cell ∨ k = .free := by
        rw [List.lookup_cons, e] at h
        rcases h with h | h
        · exact .inl (Option.some.inj h)
        · exact .inr (Option.some.inj h)
      rw [List.map_cons]
      rcases hk with rfl | rfl
      · left
        by_cases c : (NameKind.cell == NameKind.free && env.scope.kind == .function && env.kindOf n == some .cell) = true
        · dsimp only
          rw [if_pos c, List.lookup_cons, e]
        · dsimp only
          rw [if_neg c, List.lookup_cons, e]
      · by_cases c : (NameKind.free == NameKind.free && env.scope.kind == .function && env.kindOf n == some .cell) = true
        · left
          dsimp only
          rw [if_pos c, List.lookup_cons, e]
        · right
          dsimp only
          rw [if_neg c, List.lookup_cons, e]
    · have e' : (y == n) = false := by simpa using e
      rw [List.lookup_cons, e'] at h
      have := ih h
      rw [List.map_cons]
      by_cases c : (k == NameKind.free && env.scope.kind == .function && env.kindOf n == some .cell) = true
      · dsimp only
        rw [if_pos c, List.lookup_cons, e']
        exact this
      · dsimp only
        rw [if_neg c, List.lookup_cons, e']
        exact this
theorem blk_in {N : List Str} {sc scope : Scope} {own : List (Str × Nat)} {cl : List (Str × Addr)} {C : Addr} {env : Env} (h : BlkOk N sc scope own) : BlkOk N (compEnvC sc cl C env).scope scope own :=
  ⟨h.kind, h.uniq, h.ix, fun y hy e => relabel_look (h.free y hy e), h.own⟩
end El

set_option Elab.async false
set_option linter.all false
set_option maxRecDepth 100000
set_option maxHeartbeats 4000000
namespace El
open PySem PySem.Spec PyProof.Rows L2 RZ
/-! ### zip of a list and a tuple, either way about (t: a tuple) -/
def ItAt (t : Bool) (h : Heap) (i l : Addr) (n : Nat) : Prop := match t with
  | true => h.IsTupleIter i l n
  | false => h.IsListIter i l n
def SqAt (t : Bool) (h : Heap) (l : Addr) (xs : Array Value) : Prop := match t with
  | true => h.IsTuple l xs
  | false => h.IsList l xs
section
variable {prog : Program} {w : World} {A : Around} {E : Value → Shared → Prop} {s : Shared} {t t1 t2 : Bool} {h h' : Heap} {i l b : Addr} {n : Nat} {xs : Array Value}
theorem ItAt.stay (x : ItAt t h i l n) (k : ∀ o, h.get? i = some o → h'.get? i = some o) : ItAt t h' i l n := by
  cases t <;> exact Exists.elim x fun o ho => ⟨o, k o ho.1, ho.2⟩
theorem SqAt.stay (x : SqAt t h l xs) (k : ∀ o, h.get? l = some o → h'.get? l = some o) : SqAt t h' l xs := by
  cases t <;> exact Exists.elim x fun o ho => ⟨o, k o ho.1, ho.2⟩
theorem ItAt.eb (x : ItAt t h i l n) (e : Heap.ExtBut b h h') (ne : i ≠ b) : ItAt t h' i l n := x.stay fun o ho => e i o ne ho
theorem SqAt.eb (x : SqAt t h l xs) (e : Heap.ExtBut b h h') (ne : l ≠ b) : SqAt t h' l xs := x.stay fun o ho => e l o ne ho
theorem ItAt.lt (x : ItAt t h i l n) : i < h.objs.size := by
  cases t <;> exact Exists.elim x fun o ho => Heap.lt_size ho.1
theorem SqAt.lt (x : SqAt t h l xs) : l < h.objs.size := by
  cases t <;> exact Exists.elim x fun o ho => Heap.lt_size ho.1
theorem next_item {x : Value} {Q : Value → Shared → Prop} (hi : ItAt t s.heap i l n) (hl : SqAt t s.heap l xs) (hx : xs[n]? = some x) (q : ∀ h', ItAt t h' i l (n + 1) → Heap.SameBut i s.heap h' → Q x { s with heap := h' }) :
    wpAny (model prog w) A (Builtin.SmallTypes.nextOf (.ref i)) Q E s := by
  cases t with
  | true => exact nextOf_tuple_item hi hl hx q
  | false => exact wpAny_nextOf_list_item hi hl hx q
theorem next_end {Q : Value → Shared → Prop} (hh : A.handled = none) (hi : ItAt t s.heap i l n) (hl : SqAt t s.heap l xs) (hx : xs[n]? = none)
    (q : ∀ h' e, Heap.ExtBut i s.heap h' → (∃ o, h'.get? e = some o ∧ o.cls = .type "StopIteration") → E (.ref e) { s with heap := h' }) : wpAny (model prog w) A (Builtin.SmallTypes.nextOf (.ref i)) Q E s := by
  cases t with
  | true => exact nextOf_tuple_end hh hi hl hx q
  | false => exact wpAny_nextOf_list_end hh hi hl hx q
theorem zx_item {z TI TO i1 i2 l1 l2 : Addr} {k1 k2 : Nat} {xs ys : Array Value} {x y a b : Value} {Q : Value → Shared → Prop} (D : ZipApart z TI TO i1 i2 l1 l2)
    (hz : IsZip s.heap z TI TO .none) (hTI : IsPair s.heap TI (.ref i1) (.ref i2)) (hTO : IsPair s.heap TO a b) (h1 : ItAt t1 s.heap i1 l1 k1) (h2 : ItAt t2 s.heap i2 l2 k2) (hl1 : SqAt t1 s.heap l1 xs) (hl2 : SqAt t2 s.heap l2 ys) (hx : xs[k1]? = some x) (hy : ys[k2]? = some y)
    (hQ : ∀ h', IsZip h' z TI TO (rawInt s.heap.objs.size) → IsPair h' TO x y → ItAt t1 h' i1 l1 (k1 + 1) → ItAt t2 h' i2 l2 (k2 + 1) → IsPair h' s.heap.objs.size x y → h'.objs.size = s.heap.objs.size + 1 →
      (∀ c o, c ≠ z → c ≠ TO → c ≠ i1 → c ≠ i2 → s.heap.get? c = some o → h'.get? c = some o) → Q (.ref s.heap.objs.size) { s with heap := h' }) :
    wpAny (model prog w) A (Builtin.«zip.__next__» ⟨[.ref z], []⟩) (fun fin s' => ∃ v, fin = .done (.ret v) ∧ Q v s') E s := by
  show wpAny _ _ (field (.ref z) 2 >>= _) _ _ _; refine wpAny_bind (wpAny_field hz rfl (x := .bool false) rfl ?_)
  show wpAny _ _ (field (.ref z) 3 >>= _) _ _ _; refine wpAny_bind (wpAny_field hz rfl (x := .ref TI) rfl ?_); refine wpAny_bind (wpAny_seqItems hTI rfl ?_)
  show wpAny _ _ (Builtin.SmallTypes.ownedTupleIsFree (.ref z) >>= _) _ _ _; unfold Builtin.SmallTypes.ownedTupleIsFree
  refine wpAny_bind (wpAny_bind (wpAny_field hz rfl (x := .none) rfl (wpAny_pure ?_))); simp only [if_true]
  refine wpAny_bind (wpAny_rule (wpAny_bind (wpAny_field hz rfl (x := .ref TO) rfl ?_)))
  refine wpAny_bind (wpAny_setField_rec hz (by simp) fun ha za sa => ?_); have za' : IsZip ha z TI TO .ellipsis := za
  refine wpAny_bind ?_; simp only [List.zipIdx_cons, List.zipIdx_nil, List.forIn_cons, List.forIn_nil]
  have ea := sa.extBut
  refine wpAny_bind (wpAny_bind (wpAny_onRaise (?_ : wpAny _ _ (Builtin.SmallTypes.nextOf (.ref i1) >>= _) _ _ _)))
  refine wpAny_bind (next_item (h1.eb ea D.i1z) (hl1.eb ea D.l1z) hx fun hb ib sb => wpAny_pure ?_); have eb := sb.extBut
  have ob : IsPair hb TO a b := eb TO _ D.TOi1 (ea TO _ D.TOz hTO)
  refine wpAny_bind (wpAny_seqItems ob rfl (wpAny_bind (wpAny_updateSeq_pair ob fun hc oc sc => ?_))); have oc' : IsPair hc TO x b := oc; have ec := sc.extBut
  refine wpAny_bind (wpAny_letGo (wpAny_pure (wpAny_bind (wpAny_bind (wpAny_onRaise (?_ : wpAny _ _ (Builtin.SmallTypes.nextOf (.ref i2) >>= _) _ _ _))))))
  refine wpAny_bind (next_item (((h2.eb ea D.i2z).eb eb D.i12.symm).eb ec D.TOi2.symm) (((hl2.eb ea D.l2z).eb eb D.l2i1).eb ec D.l2TO) hy fun hd id_ sd => wpAny_pure ?_); have ed := sd.extBut
  have od : IsPair hd TO x b := ed TO _ D.TOi2 oc'
  refine wpAny_bind (wpAny_seqItems od rfl (wpAny_bind (wpAny_updateSeq_pair od fun he oe se => ?_))); have oe' : IsPair he TO x y := oe; have ee := se.extBut
  refine wpAny_bind (wpAny_letGo (wpAny_pure (wpAny_pure (wpAny_bind (wpAny_seqItems oe' rfl (wpAny_bind (wpAny_newTuple ?_)))))))
  have size : he.objs.size = s.heap.objs.size := by rw [se.1, sd.1, sc.1, sb.1, sa.1]
  have zee : IsZip he z TI TO .ellipsis := ee z _ D.TOz.symm (ed z _ D.i2z.symm (ec z _ D.TOz.symm (eb z _ D.i1z.symm za')))
  have old : ∀ c o, c ≠ z → c ≠ TO → c ≠ i1 → c ≠ i2 → s.heap.get? c = some o → he.get? c = some o := fun c o c1 c2 c3 c4 q => ee c o c2 (ed c o c4 (ec c o c2 (eb c o c3 (ea c o c1 q))))
  have i1e : ItAt t1 he i1 l1 (k1 + 1) := ((ib.eb ec D.TOi1.symm).eb ed D.i12).eb ee D.TOi1.symm
  have i2e : ItAt t2 he i2 l2 (k2 + 1) := id_.eb ee D.TOi2.symm
  have ltz : z < he.objs.size := Heap.lt_size zee
  show wpAny _ _ (Builtin.SmallTypes.ownedTupleHandOut (.ref z) (.ref he.objs.size) >>= _) _ _ _; unfold Builtin.SmallTypes.ownedTupleHandOut
  have zf : IsZip (he.push { cls := .type "tuple", data := .seq #[x, y] }) z TI TO .ellipsis := Heap.get?_push_of_some _ zee
  refine wpAny_bind (wpAny_bind (wpAny_setField_rec zf (by simp) fun hg zg sg => ?_)); have zg' : IsZip hg z TI TO (rawInt he.objs.size) := zg
  refine wpAny_setField_rec zg' (by simp) fun hk zk sk => ?_; have zk' : IsZip hk z TI TO (rawInt he.objs.size) := zk
  have up : ∀ c o, c ≠ z → he.get? c = some o → hk.get? c = some o := fun c o c1 q => sk.extBut c o c1 (sg.extBut c o c1 (Heap.get?_push_of_some _ q))
  have pk : IsPair hk he.objs.size x y := sk.extBut _ _ (Nat.ne_of_gt ltz) (sg.extBut _ _ (Nat.ne_of_gt ltz) (Heap.get?_push_size _ rfl))
  have sk8 : hk.objs.size = he.objs.size + 1 := by rw [sk.1, sg.1, Heap.size_push]
  rw [size] at zk' pk sk8
  refine wpAny_pure ⟨.ref he.objs.size, rfl, ?_⟩; rw [size]
  exact hQ hk zk' (up TO _ D.TOz oe') (i1e.stay fun o q => up i1 o D.i1z q) (i2e.stay fun o q => up i2 o D.i2z q) pk sk8 fun c o c1 c2 c3 c4 q => up c o c1 (old c o c1 c2 c3 c4 q)
theorem zx_end {z TI TO i1 i2 l1 l2 : Addr} {k1 k2 : Nat} {xs ys : Array Value} {a b : Value} {Q : Fin → Shared → Prop} (hh : A.handled = none) (D : ZipApart z TI TO i1 i2 l1 l2)
    (hz : IsZip s.heap z TI TO .none) (hTI : IsPair s.heap TI (.ref i1) (.ref i2)) (hTO : IsPair s.heap TO a b) (h1 : ItAt t1 s.heap i1 l1 k1) (h2 : ItAt t2 s.heap i2 l2 k2) (hl1 : SqAt t1 s.heap l1 xs) (hl2 : SqAt t2 s.heap l2 ys) (hend : xs[k1]? = none ∨ ys[k2]? = none)
    (hE : ∀ h' e, (∀ c o, c ≠ z → c ≠ TO → c ≠ i1 → c ≠ i2 → s.heap.get? c = some o → h'.get? c = some o) → (∃ o, h'.get? e = some o ∧ o.cls = .type "StopIteration") → E (.ref e) { s with heap := h' }) :
    wpAny (model prog w) A (Builtin.«zip.__next__» ⟨[.ref z], []⟩) Q E s := by
  show wpAny _ _ (field (.ref z) 2 >>= _) _ _ _; refine wpAny_bind (wpAny_field hz rfl (x := .bool false) rfl ?_)
  show wpAny _ _ (field (.ref z) 3 >>= _) _ _ _; refine wpAny_bind (wpAny_field hz rfl (x := .ref TI) rfl ?_); refine wpAny_bind (wpAny_seqItems hTI rfl ?_)
  show wpAny _ _ (Builtin.SmallTypes.ownedTupleIsFree (.ref z) >>= _) _ _ _; unfold Builtin.SmallTypes.ownedTupleIsFree
  refine wpAny_bind (wpAny_bind (wpAny_field hz rfl (x := .none) rfl (wpAny_pure ?_))); simp only [if_true]
  refine wpAny_bind (wpAny_rule (wpAny_bind (wpAny_field hz rfl (x := .ref TO) rfl ?_)))
  refine wpAny_bind (wpAny_setField_rec hz (by simp) fun ha za sa => ?_); have za' : IsZip ha z TI TO .ellipsis := za
  refine wpAny_bind ?_; simp only [List.zipIdx_cons, List.zipIdx_nil, List.forIn_cons, List.forIn_nil]
  have ea := sa.extBut
  refine wpAny_bind (wpAny_bind (wpAny_onRaise (?_ : wpAny _ _ (Builtin.SmallTypes.nextOf (.ref i1) >>= _) _ _ _)))
  have out : ∀ (hq hr : Heap) (e : Addr), (∃ o, hq.get? e = some o ∧ o.cls = .type "StopIteration") → IsZip hq z TI TO .ellipsis → Heap.SameBut z hq hr → ∃ o, hr.get? e = some o ∧ o.cls = .type "StopIteration" := fun hq hr e ⟨o, ho, hc⟩ zq sr =>
    ⟨o, sr.extBut _ _ (fun q => by subst q; rw [zq] at ho; cases ho; simp at hc) ho, hc⟩
  cases hx : xs[k1]? with
  | none =>
    refine wpAny_bind (next_end hh (h1.eb ea D.i1z) (hl1.eb ea D.l1z) hx fun hb e eb st => ?_)
    have zb : IsZip hb z TI TO .ellipsis := eb z _ D.i1z.symm za'
    exact wpAny_setField_rec zb (by simp) fun hc _ sc => hE hc e (fun c o c1 _ c3 _ q => sc.extBut c o c1 (eb c o c3 (ea c o c1 q))) (out hb hc e st zb sc)
  | some x =>
    have hy : ys[k2]? = none := hend.resolve_left fun q => by rw [hx] at q; cases q
    refine wpAny_bind (next_item (h1.eb ea D.i1z) (hl1.eb ea D.l1z) hx fun hb ib sb => wpAny_pure ?_); have eb := sb.extBut
    have ob : IsPair hb TO a b := eb TO _ D.TOi1 (ea TO _ D.TOz hTO)
    refine wpAny_bind (wpAny_seqItems ob rfl (wpAny_bind (wpAny_updateSeq_pair ob fun hc oc sc => ?_))); have ec := sc.extBut
    refine wpAny_bind (wpAny_letGo (wpAny_pure (wpAny_bind (wpAny_bind (wpAny_onRaise (?_ : wpAny _ _ (Builtin.SmallTypes.nextOf (.ref i2) >>= _) _ _ _))))))
    refine wpAny_bind (next_end hh (((h2.eb ea D.i2z).eb eb D.i12.symm).eb ec D.TOi2.symm) (((hl2.eb ea D.l2z).eb eb D.l2i1).eb ec D.l2TO) hy fun hd e ed st => ?_)
    have zd : IsZip hd z TI TO .ellipsis := ed z _ D.i2z.symm (ec z _ D.TOz.symm (eb z _ D.i1z.symm za'))
    exact wpAny_setField_rec zd (by simp) fun he _ se => hE he e (fun c o c1 c2 c3 c4 q => se.extBut c o c1 (ed c o c4 (ec c o c2 (eb c o c3 (ea c o c1 q))))) (out hd he e st zd se)
theorem zx_next {z TI TO i1 i2 l1 l2 : Addr} {k1 k2 : Nat} {xs ys : Array Value} {x y a b : Value} {Q : Option Value → Shared → Prop} (D : ZipApart z TI TO i1 i2 l1 l2)
    (hz : IsZip s.heap z TI TO .none) (hTI : IsPair s.heap TI (.ref i1) (.ref i2)) (hTO : IsPair s.heap TO a b) (h1 : ItAt t1 s.heap i1 l1 k1) (h2 : ItAt t2 s.heap i2 l2 k2) (hl1 : SqAt t1 s.heap l1 xs) (hl2 : SqAt t2 s.heap l2 ys) (hx : xs[k1]? = some x) (hy : ys[k2]? = some y)
    (hQ : ∀ h', IsZip h' z TI TO (rawInt s.heap.objs.size) → IsPair h' TO x y → ItAt t1 h' i1 l1 (k1 + 1) → ItAt t2 h' i2 l2 (k2 + 1) → IsPair h' s.heap.objs.size x y → h'.objs.size = s.heap.objs.size + 1 →
      (∀ c o, c ≠ z → c ≠ TO → c ≠ i1 → c ≠ i2 → s.heap.get? c = some o → h'.get? c = some o) → Q (some (.ref s.heap.objs.size)) { s with heap := h' }) : wpAny (model prog w) A (pyNext (.ref z)) Q E s := by
  have ty : s.TypeIs (.ref z) "zip" := ⟨_, hz, rfl⟩
  unfold pyNext
  refine wpAny_bind (wpAny_attempt (wpAny_callSpecial?_slot (name := Str.ofString "__next__") ty F.slot_zip_next ?_))
  exact wpAny_call_entry F.slot_zip_next ty F.entry_zip_next (zx_item D hz hTI hTO h1 h2 hl1 hl2 hx hy fun h' c1 c2 c3 c4 c5 c6 c7 => wpAny_pure (hQ h' c1 c2 c3 c4 c5 c6 c7)) (F.args_zip_next_1 _)
theorem zx_stop {z TI TO i1 i2 l1 l2 : Addr} {k1 k2 : Nat} {xs ys : Array Value} {a b : Value} {Q : Option Value → Shared → Prop} (hh : A.handled = none) (D : ZipApart z TI TO i1 i2 l1 l2)
    (hz : IsZip s.heap z TI TO .none) (hTI : IsPair s.heap TI (.ref i1) (.ref i2)) (hTO : IsPair s.heap TO a b) (h1 : ItAt t1 s.heap i1 l1 k1) (h2 : ItAt t2 s.heap i2 l2 k2) (hl1 : SqAt t1 s.heap l1 xs) (hl2 : SqAt t2 s.heap l2 ys) (hend : xs[k1]? = none ∨ ys[k2]? = none)
    (hQ : ∀ h', (∀ c o, c ≠ z → c ≠ TO → c ≠ i1 → c ≠ i2 → s.heap.get? c = some o → h'.get? c = some o) → Q none { s with heap := h' }) : wpAny (model prog w) A (pyNext (.ref z)) Q E s := by
  have ty : s.TypeIs (.ref z) "zip" := ⟨_, hz, rfl⟩
  unfold pyNext
  refine wpAny_bind (wpAny_attempt (wpAny_callSpecial?_slot (name := Str.ofString "__next__") ty F.slot_zip_next ?_))
  refine wpAny_call_entry F.slot_zip_next ty F.entry_zip_next (zx_end hh D hz hTI hTO h1 h2 hl1 hl2 hend fun h' e hk st => ?_) (F.args_zip_next_1 _)
  obtain ⟨o, ho, hc⟩ := st
  exact wpAny_bind (wpAny_isInstance (T := "StopIteration") (b := true) ⟨o, ho, hc⟩ isSubtype_stop (wpAny_pure (hQ _ hk)))
def itO (t : Bool) (l : Addr) : Obj := { cls := .type (match t with | true => "tuple_iterator" | false => "list_iterator"), data := .fields #[.ref l, .int 0 0] }
theorem zx_iter {Q : Value → Shared → Prop} {hp : Heap} {g d tk os} (hl : SqAt t hp l xs) (q : Q (.ref hp.objs.size) ⟨hp.push (itO t l), g, d, tk, os⟩) : wpAny (model prog w) A (pyIter (.ref l)) Q E ⟨hp, g, d, tk, os⟩ := by
  cases t with
  | true => exact wpAny_pyIter_tuple (s := ⟨hp, g, d, tk, os⟩) hl q
  | false => exact wpAny_pyIter_list (s := ⟨hp, g, d, tk, os⟩) hl q
abbrev zx1 (t1 : Bool) (h : Heap) (l1 : Addr) : Heap := h.push (itO t1 l1)
abbrev zx2 (t1 t2 : Bool) (h : Heap) (l1 l2 : Addr) : Heap := (zx1 t1 h l1).push (itO t2 l2)
abbrev zx3 (t1 t2 : Bool) (h : Heap) (l1 l2 : Addr) : Heap := (zx2 t1 t2 h l1 l2).push { cls := .type "tuple", data := .seq #[.ref h.objs.size, .ref (zx1 t1 h l1).objs.size] }
abbrev zx4 (t1 t2 : Bool) (h : Heap) (l1 l2 : Addr) : Heap := (zx3 t1 t2 h l1 l2).push { cls := .type "tuple", data := .seq #[.none, .none] }
abbrev zx5 (t1 t2 : Bool) (h : Heap) (l1 l2 : Addr) : Heap := (zx4 t1 t2 h l1 l2).push { cls := .type "zip", data := .fields #[.none, .bool false, .bool false, .ref (zx2 t1 t2 h l1 l2).objs.size, .ref (zx3 t1 t2 h l1 l2).objs.size] }
end
theorem zx_new (t1 t2 : Bool) (l1 l2 : Addr) (xs ys : Array Value) : Meets (Builtin.«zip.__new__» ⟨[.type "zip", .ref l1, .ref l2], []⟩) (fun _ R s => SqAt t1 s.heap l1 xs ∧ SqAt t2 s.heap l2 ys ∧
      R (.ok (.ret (.ref (zx4 t1 t2 s.heap l1 l2).objs.size))) { s with heap := zx5 t1 t2 s.heap l1 l2 }) :=
  .of_wp fun prog w A R s h => by
    obtain ⟨hp, g, d, tk, os⟩ := s
    obtain ⟨ha, hb, h⟩ := h
    have hsub := sub_zip
    have hb2 : SqAt t2 (hp.push (itO t1 l1)) l2 ys := hb.stay fun o q => Heap.get?_push_of_some _ q
    wp_walk using zx_iter ha, zx_iter hb2
    exact ⟨_, rfl, h⟩
section
variable {prog : Program} {w : World} {A : Around} {E : Value → Shared → Prop} {s : Shared} {t1 t2 : Bool}
theorem zx_call {l1 l2 : Addr} {xs ys : Array Value} {Q : Value → Shared → Prop} (ha : SqAt t1 s.heap l1 xs) (hb : SqAt t2 s.heap l2 ys)
    (h : ∀ h', IsZip h' (s.heap.objs.size + 4) (s.heap.objs.size + 2) (s.heap.objs.size + 3) .none → IsPair h' (s.heap.objs.size + 2) (.ref s.heap.objs.size) (.ref (s.heap.objs.size + 1)) → IsPair h' (s.heap.objs.size + 3) .none .none →
      ItAt t1 h' s.heap.objs.size l1 0 → ItAt t2 h' (s.heap.objs.size + 1) l2 0 → (∀ c o, s.heap.get? c = some o → h'.get? c = some o) → Q (.ref (s.heap.objs.size + 4)) { s with heap := h' }) : wpAny (model prog w) A (call (.type "zip") [.ref l1, .ref l2]) Q E s := by
  refine callType_new F.called_zip (by decide) (F.typeCall_zip_2 _ _) (F.newCall_zip_2 _ _) (fun obj => F.args_object_init_3 obj _ _) F.entry_zip_new (zx_new t1 t2 l1 l2 xs ys) ⟨ha, hb, ?_⟩
  generalize hn : s.heap.objs.size = n at h
  have z1 : (zx1 t1 s.heap l1).objs.size = n + 1 := by rw [Heap.size_push, hn]
  have z2 : (zx2 t1 t2 s.heap l1 l2).objs.size = n + 2 := by rw [Heap.size_push, z1]
  have z3 : (zx3 t1 t2 s.heap l1 l2).objs.size = n + 3 := by rw [Heap.size_push, z2]
  have z4 : (zx4 t1 t2 s.heap l1 l2).objs.size = n + 4 := by rw [Heap.size_push, z3]
  have up : ∀ {hh : Heap} (o : Obj) {c : Addr} {u : Obj}, hh.get? c = some u → (hh.push o).get? c = some u := fun o _ _ q => Heap.get?_push_of_some o q
  have g5 : (zx5 t1 t2 s.heap l1 l2).get? (n + 4) = some { cls := .type "zip", data := .fields #[.none, .bool false, .bool false, .ref (n + 2), .ref (n + 3)] } := by
    have := Heap.get?_push_size (zx4 t1 t2 s.heap l1 l2) (o := { cls := .type "zip", data := .fields #[.none, .bool false, .bool false, .ref (zx2 t1 t2 s.heap l1 l2).objs.size, .ref (zx3 t1 t2 s.heap l1 l2).objs.size] }) rfl
    rw [z4, z2, z3] at this
    rw [← this]
    show Heap.get? (Heap.push _ { cls := .type "zip", data := .fields #[.none, .bool false, .bool false, .ref (zx2 t1 t2 s.heap l1 l2).objs.size, .ref (zx3 t1 t2 s.heap l1 l2).objs.size] }) _ = _
    rw [z2, z3]
  have g4 : (zx5 t1 t2 s.heap l1 l2).get? (n + 3) = some { cls := .type "tuple", data := .seq #[.none, .none] } := by
    have := Heap.get?_push_size (zx3 t1 t2 s.heap l1 l2) (o := { cls := .type "tuple", data := .seq #[.none, .none] }) rfl
    rw [z3] at this
    exact up _ this
  have g3 : (zx5 t1 t2 s.heap l1 l2).get? (n + 2) = some { cls := .type "tuple", data := .seq #[.ref n, .ref (n + 1)] } := by
    have := Heap.get?_push_size (zx2 t1 t2 s.heap l1 l2) (o := { cls := .type "tuple", data := .seq #[.ref s.heap.objs.size, .ref (zx1 t1 s.heap l1).objs.size] }) rfl
    rw [z2] at this
    exact (up _ (up _ this)).trans (by rw [hn, z1])
  have g2 : (zx5 t1 t2 s.heap l1 l2).get? (n + 1) = some (itO t2 l2) := by
    have := Heap.get?_push_size (zx1 t1 s.heap l1) (o := itO t2 l2) (by cases t2 <;> rfl)
    rw [z1] at this
    exact up _ (up _ (up _ this))
  have g1 : (zx5 t1 t2 s.heap l1 l2).get? n = some (itO t1 l1) := by
    have := Heap.get?_push_size s.heap (o := itO t1 l1) (by cases t1 <;> rfl)
    rw [hn] at this
    exact up _ (up _ (up _ (up _ this)))
  show _ ∧ _
  rw [z4]
  exact ⟨⟨_, g5, rfl⟩, h _ g5 g3 g4 (by cases t1 <;> exact ⟨_, g1, rfl, rfl⟩) (by cases t2 <;> exact ⟨_, g2, rfl, rfl⟩) fun c o q => up _ (up _ (up _ (up _ (up _ q))))⟩
end
end El

set_option Elab.async false
set_option linter.all false
set_option maxRecDepth 100000
set_option maxHeartbeats 4000000
namespace El
open PySem PySem.Spec PyProof.Rows L2 RZ
/-! ### zip of a list and a tuple: the rule -/
def SqX (t : Bool) (K : PySem.W.Frag) (H : Hp) (a : Addr) (xs : List V) : Prop := match t with
  | true => SqT K H a xs
  | false => SqL K H a xs
def Itx (t1 t2 : Bool) (K : PySem.W.Frag) (a b : Addr) : It :=
  ⟨fun i H => ∃ (xs ys : List V) (x y : V), SqX t1 K H a xs ∧ SqX t2 K H b ys ∧ xs[i]? = some x ∧ ys[i]? = some y,
    fun i H v H' => ∃ T x y, v = .ref T ∧ H T = none ∧ H' = upd H T (.tup [x, y]) ∧ (∀ xs, SqX t1 K H a xs → xs[i]? = some x) ∧ ∀ ys, SqX t2 K H b ys → ys[i]? = some y,
    fun i H => ∃ xs ys : List V, SqX t1 K H a xs ∧ SqX t2 K H b ys ∧ (xs.length ≤ i ∨ ys.length ≤ i)⟩
section
variable {X : Cx} {pins : List (Addr × Obj)} {σ : L2.St} {H : Hp} {s : Shared} {t t1 t2 : Bool} {a : Addr} {xs ys : List V}
theorem sqx_at (I : Inv X pins σ H s) (h : SqX t X.K H a xs) : ∃ its : List Value, Vals xs its ∧ SqAt t s.heap a its.toArray := by
  cases t with
  | true => obtain ⟨its, r, p, _⟩ := I.tuple h; exact ⟨its, r, p⟩
  | false => obtain ⟨its, r, p, _⟩ := I.list h; exact ⟨its, r, p.isList⟩
theorem sqx_inj (I : Inv X pins σ H s) (h : SqX t X.K H a xs) (h' : SqX t X.K H a ys) : xs = ys := by
  cases t with
  | true => exact I.tuple_inj h h'
  | false => exact I.list_inj h h'
theorem five {P : Addr → Prop} {z a b c d x : Addr} (hx : x ∈ [z, a, b, c, d]) (h0 : P z) (h1 : P a) (h2 : P b) (h3 : P c) (h4 : P d) : P x := by
  simp only [List.mem_cons, List.not_mem_nil, or_false] at hx
  rcases hx with rfl | rfl | rfl | rfl | rfl <;> assumption
theorem turn_zx {P : Program} {w : World} {K : PySem.W.Frag} {elts : List Expr} {kk : Nat} {tpos : Pos} {a b z TI TO i1 i2 : Addr} (D : ZipApart z TI TO i1 i2 a b) :
    Turn P w K (.Tuple elts kk tpos) (Itx t1 t2 K a b) [z, TI, TO, i1, i2] z (fun i h => IsZip h z TI TO .none ∧ IsPair h TI (.ref i1) (.ref i2) ∧ (∃ x y, IsPair h TO x y) ∧ ItAt t1 h i1 a i ∧ ItAt t2 h i2 b i) where
  mem := List.mem_cons_self
  obj := fun i h ⟨hz, hTI, ⟨x, y, hTO⟩, j1, j2⟩ c hc => by
    have ite : ∀ {t : Bool} {k l : Addr} {n : Nat}, ItAt t h k l n → ∃ o, h.get? k = some o ∧ ∀ v, o.data ≠ .cell v := fun {t k l n} q => by
      cases t <;> (obtain ⟨o, e, _, d⟩ := q; exact ⟨o, e, fun v z => by rw [d] at z; cases z⟩)
    exact five (P := fun c => ∃ o, h.get? c = some o ∧ ∀ v, o.data ≠ .cell v) hc ⟨_, hz, fun v q => nomatch q⟩ ⟨_, hTI, fun v q => nomatch q⟩ ⟨_, hTO, fun v q => nomatch q⟩ (ite j1) (ite j2)
  keep := fun i h h' ⟨hz, hTI, ⟨x, y, hTO⟩, j1, j2⟩ k => ⟨k z (by simp) _ hz, k TI (by simp) _ hTI, ⟨x, y, k TO (by simp) _ hTO⟩, j1.stay (k i1 (by simp)), j2.stay (k i2 (by simp))⟩
  item := by
    intro X hP hw hK hc i pins s σ H E I hf st hg
    subst hP hw hK
    obtain ⟨hz, hTI, ⟨x0, y0, hTO⟩, j1, j2⟩ := st
    obtain ⟨xs, ys, x, y, qx, qy, hx, hy⟩ := hg
    obtain ⟨us, ru, pu⟩ := sqx_at I qx
    obtain ⟨vs, rv, pv⟩ := sqx_at I qy
    obtain ⟨u, hu, r1⟩ := ru.get hx
    obtain ⟨v, hv, r2⟩ := rv.get hy
    have lz := Heap.lt_size hz
    refine zx_next D hz hTI hTO j1 j2 pu pv (x := u) (y := v) (by simpa using hu) (by simpa using hv) fun h' z' TO' j1' j2' hT hsz hk => ⟨_, rfl, wpAny_letOwnedTupleGo_zip (s := { s with heap := h' }) z' fun h2 z2 sb => ?_⟩
    have pair : h2.get? s.heap.objs.size = some { cls := .type "tuple", data := .seq #[u, v] } := (sb.2 _ (Nat.ne_of_gt lz)).trans hT
    have same : ∀ c o, c ∉ [z, TI, TO, i1, i2] → s.heap.get? c = some o → h2.get? c = some o := fun c o hb q => by
      have ne : ∀ d, d ∈ [z, TI, TO, i1, i2] → c ≠ d := fun d hd e => hb (e ▸ hd)
      exact (sb.2 c (ne z (by simp))).trans (hk c o (ne z (by simp)) (ne TO (by simp)) (ne i1 (by simp)) (ne i2 (by simp)) q)
    have J : Inv X pins σ (upd H s.heap.objs.size (.tup [x, y])) { s with heap := h2 } :=
      I.turnedNew (t' := s.toks) (ch := [z, TI, TO, i1, i2]) same hf (Nat.le_refl _) ⟨by show 2 ≤ sizeLine; decide, [u, v], .cons r1 (.cons r2 .nil), ⟨_, pair, rfl, _, rfl⟩⟩
    refine ⟨.ref s.heap.objs.size, _, J, rfl, ⟨_, x, y, rfl, I.hok.fresh (Nat.le_refl _), rfl, fun l hl => by rw [sqx_inj I hl qx]; exact hx, fun l hl => by rw [sqx_inj I hl qy]; exact hy⟩,
      ⟨z2, (sb.2 _ D.TIz).trans (hk _ _ D.TIz D.TITO D.TIi1 D.TIi2 hTI), ⟨u, v, (sb.2 _ D.TOz).trans TO'⟩, j1'.stay fun o q => (sb.2 _ D.i1z).trans q, j2'.stay fun o q => (sb.2 _ D.i2z).trans q⟩, fun c hc => ?_⟩
    have lt : c < s.heap.objs.size := five (P := fun c => c < s.heap.objs.size) hc lz (Heap.lt_size hTI) (Heap.lt_size hTO) j1.lt j2.lt
    rw [upd_ne (Nat.ne_of_lt lt)]
    exact (hf c hc).1
  done := by
    intro X hP hw hK hc i pins s σ H E I hf st hg
    subst hP hw hK
    obtain ⟨hz, hTI, ⟨x0, y0, hTO⟩, j1, j2⟩ := st
    obtain ⟨xs, ys, qx, qy, hend⟩ := hg
    obtain ⟨us, ru, pu⟩ := sqx_at I qx
    obtain ⟨vs, rv, pv⟩ := sqx_at I qy
    have n1 := ru.length
    have n2 := rv.length
    refine zx_stop (I.ok.hd hc) D hz hTI hTO j1 j2 pu pv (hend.imp (fun q => by simp; omega) (fun q => by simp; omega)) fun h' hk => ⟨rfl, I.turnedL (t' := s.toks) (ch := [z, TI, TO, i1, i2]) (fun c o hb q => ?_) hf⟩
    have ne : ∀ d, d ∈ [z, TI, TO, i1, i2] → c ≠ d := fun d hd e => hb (e ▸ hd)
    exact hk c o (ne z (by simp)) (ne TO (by simp)) (ne i1 (by simp)) (ne i2 (by simp)) q
  self := fun A i s Q E st h => wpAny_pyIter_zip st.1 h
end
def iZipX (t1 t2 : Bool) (K : PySem.W.Frag) (ta : TA) : TI := fun σ H R => ta σ H fun vs H1 => ∃ a b xs ys, vs = [.ref a, .ref b] ∧ SqX t1 K H1 a xs ∧ SqX t2 K H1 b ys ∧ R (Itx t1 t2 K a b) H1
theorem kzipX (t1 t2 : Bool) {X : Cx} (K : PySem.W.Frag) {e e2 : Expr} {ta : TA} {p pos tpos : Pos} {elts : List Expr} {kk : Nat} (hg : Gl X "zip") (hm : X.mg "zip" = none) (ha : PA X [e, e2] ta)
    (hs : starEach [e, e2] X.env = (false, eval e X.env) :: starEach [e2] X.env := by rfl) (hpl : (backTo pos (starEach [e2] X.env)).any (·.1) = false := by rfl) (hK : X.K = K := by rfl) :
    PI X (.Tuple elts kk tpos) (.Call (.Name "zip" p) [e, e2] [] pos) (iZipX t1 t2 K ta) := by
  subst hK
  refine ⟨fun pins s σ H R I h => Call_ (ld_blt I hg hm boot_zip (callWith_type1 (thn (ha.run pos pins s σ H _ I h) fun us s1 ⟨vs, H1, I1, r1, a, b, xs, ys, ex, qx, qy, q⟩ => ?_) hs hpl))⟩
  subst ex
  obtain ⟨us1, ru, pu⟩ := sqx_at I1 qx
  obtain ⟨us2, rv, pv⟩ := sqx_at I1 qy
  cases r1 with
  | cons r rr => cases rr with
    | cons r' rr =>
      cases rr
      cases r
      cases r'
      refine zx_call pu pv fun h' hz hTI hTO j1 j2 hk => wpAny_pyIter_zip hz ?_
      generalize hn : s1.heap.objs.size = n at *
      refine ⟨n + 4, [n + 4, n + 2, n + 3, n, n + 1], _, _, H1, rfl, I1.kept (t' := s1.toks) hk, turn_zx (PySem.W.ktu_apart n a b (by rw [← hn]; exact pu.lt) (by rw [← hn]; exact pv.lt)), ⟨hz, hTI, ⟨_, _, hTO⟩, j1, j2⟩, fun c hc => ?_, q⟩
      have le : s1.heap.objs.size ≤ c := by
        rw [hn]
        exact five (P := fun c => n ≤ c) hc (Nat.le_add_right _ _) (Nat.le_add_right _ _) (Nat.le_add_right _ _) (Nat.le_refl _) (Nat.le_add_right _ _)
      exact I1.fpOk le (I1.hok.fresh le)
theorem walk_zx {t1 t2 : Bool} {K : PySem.W.Frag} {a b : Addr} {xs ys : List V} {n : Nat} (hn : n = min xs.length ys.length) : Walk (Itx t1 t2 K a b) n (fun H => SqX t1 K H a xs ∧ SqX t2 K H b ys) (YPair (fun i => xs[i]?) (fun i => ys[i]?)) := by
  subst hn
  refine ⟨fun i _ hi q => ⟨xs, ys, xs[i]'(by omega), ys[i]'(by omega), q.1, q.2, by simp [show i < xs.length by omega], by simp [show i < ys.length by omega]⟩, fun _ q => ⟨xs, ys, q.1, q.2, by omega⟩, fun i H v H' _ q y => ?_⟩
  obtain ⟨T, x, z, h1, h2, h3, h4, h5⟩ := y
  exact ⟨T, x, z, h1, h2, h3, h4 xs q.1, h5 ys q.2⟩
end El

set_option Elab.async false
set_option linter.all false
set_option maxRecDepth 100000
set_option maxHeartbeats 4000000
namespace El
open PySem PySem.Spec L2
/-! ### xs[i] += e -/
def rGetL : V → V → Hp → VK → Prop := fun x y H Q => ∃ p xs, ∃ n : Nat, ∃ v, x = .ref p ∧ y = .int (n : Int) ∧ H p = some (.lst xs) ∧ xs[n]? = some v ∧ Q v H
theorem get_list {X : Cx} : PGet X rGetL := by
  intro pins s σ H o i ov iv Q I ro ri h
  obtain ⟨p, xs, n, v, rfl, rfl, hp, hv, q⟩ := h
  cases ro
  obtain ⟨t, rfl⟩ := ri
  obtain ⟨its, r, pl, hz⟩ := I.list (SqL.of hp)
  obtain ⟨u, hu, ru⟩ := r.get hv
  have hl := r.length
  have hn : n < xs.length := (List.getElem?_eq_some_iff.mp hv).1
  have h63 := line63
  exact wpAny_getItem_list pl.isList (by omega) (by omega) (x := u) (by simpa using hu) ⟨v, H, I, ru, q⟩
theorem flat_one {α : Type} (v : α) : ∀ n : Nat, (List.replicate n [v]).flatten = List.replicate n v
  | 0 => rfl
  | n + 1 => by rw [List.replicate_succ, List.replicate_succ, List.flatten_cons, flat_one v n]; rfl
section
variable {K : PySem.W.Frag} {σ : St} {F H F' H' F0 H0 : Hp} {ta tb tc td te tl : TE} {tt : TT} {α β γ δ : Type} {R : Rp α} {S : Rp β} {T : Rp γ} {U : Rp δ} {x : α} {y : β} {xs : List α} {ys : List β} {D : Ends} {ts : TS} {E : XK} {i j : Int} {C : Addr} {l : Addr} {vs : List V} {ns : List Nat} {k : Nat}
theorem x_augI {n : Nat} {a b : Int} (e : Ex F H) (ha : Ev rRef ta σ F H l) (hi : Ev rInt tb σ F H (n : Int)) (hl : H l = some (.lst vs)) (hv : vs[n]? = some (.int a)) (h : Ev rInt te σ F H b)
    (k : ∀ F' H', Gr M0 F H F' H' → H' l = some (.lst vs) → D.nx σ (upd H' l (.lst (vs.set n (.int (a + b)))))) : tAugS ta tb te rGetL (ipI fun i j => i + j) rSetL D σ H :=
  ha F H (.refl e) _ fun v F1 H1 g1 r1 => hi F1 H1 g1 _ fun w F2 H2 g2 r2 => ⟨l, vs, n, .int a, r1, r2, g2.hx _ _ (g1.hx _ _ hl), hv, h F2 H2 (g1.trans g2) _ fun u F3 H3 g3 r3 => ⟨a, b, rfl, r3, by
    have hn : n < vs.length := (List.getElem?_eq_some_iff.mp hv).1
    have h3 := g3.hx _ _ (g2.hx _ _ (g1.hx _ _ hl))
    refine ⟨l, vs, (n : Int), n, r1, r2, h3, ?_, k F3 H3 ((g1.trans g2).trans g3) h3⟩
    unfold ixN
    rw [if_pos (by omega), if_pos (by omega)]
    rfl⟩⟩
theorem Ev.ints (h : Ev (rLst rNat) te σ F H ns) : Ev (rLst rInt) te σ F H (ns.map fun n : Nat => (n : Int)) := h.as fun F v ⟨a, vs, e, hl, p⟩ => ⟨a, vs, e, hl, by
  have := nats_paired p
  rw [this]
  exact paired_ints _⟩
/-! in, of numbers -/
theorem inV_nats (k : Nat) : ∀ ns : List Nat, inV (V.int (k : Int)) (ns.map fun n : Nat => V.int (n : Int)) = decide (k ∈ ns)
  | [] => rfl
  | n :: ns => by
    have h1 : eqV (V.int (n : Int)) (V.int (k : Int)) = decide (k = n) := by
      show ((n : Int) == (k : Int)) = _
      by_cases h : k = n
      · rw [decide_eq_true h, h]; exact beq_self_eq_true _
      · rw [decide_eq_false h]; exact beq_eq_false_iff_ne.mpr (by omega)
    show (eqV (V.int (n : Int)) (V.int (k : Int)) || inV (V.int (k : Int)) (ns.map fun n : Nat => V.int (n : Int))) = _
    rw [h1, inV_nats k ns]
    by_cases h : k = n
    · have hm : k ∈ n :: ns := by rw [h]; exact List.mem_cons_self
      rw [decide_eq_true h, decide_eq_true hm]; rfl
    · rw [decide_eq_false h, Bool.false_or]
      exact decide_eq_decide.mpr ⟨fun q => List.mem_cons_of_mem _ q, fun q => (List.mem_cons.mp q).resolve_left h⟩
theorem flat_nats : ∀ ns : List Nat, (ns.map fun n : Nat => V.int (n : Int)).all flatV = true
  | [] => rfl
  | n :: ns => by rw [List.map_cons, List.all_cons, flat_nats ns]; rfl
theorem ev_inM {neg : Bool} (hk : Ev rNat ta σ F H k) (ha : Ev rRef tb σ F H l) (hl : H l = some (.lst (ns.map fun n : Nat => V.int (n : Int)))) : Ev rBl (tOp (rIn K neg) ta tb) σ F H (if neg then !decide (k ∈ ns) else decide (k ∈ ns)) := fun F1 H1 g1 Q q =>
  hk F1 H1 g1 _ fun v F2 H2 g2 r => ha F2 H2 (g1.trans g2) _ fun w F3 H3 g3 e => by
    cases (show v = _ from r)
    refine ⟨l, _, e, .inl (SqL.of (g3.hx _ _ (g2.hx _ _ (g1.hx _ _ hl)))), rfl, flat_nats ns, ?_⟩
    rw [inV_nats]
    exact q _ F3 H3 (g2.trans g3) rfl
theorem ev_inL {neg : Bool} (hk : Ev rNat ta σ F H k) (ha : Ev (rLst rNat) tb σ F H ns) : Ev rBl (tOp (rIn K neg) ta tb) σ F H (if neg then !decide (k ∈ ns) else decide (k ∈ ns)) := fun F1 H1 g1 Q q =>
  hk F1 H1 g1 _ fun v F2 H2 g2 r => ha F2 H2 (g1.trans g2) _ fun w F3 H3 g3 ⟨p, vs, e, hp, pr⟩ => by
    cases (show v = _ from r)
    have ev := nats_eq pr
    subst ev
    refine ⟨p, _, e, .inl (SqL.of (g3.fh _ _ hp)), rfl, flat_nats ns, ?_⟩
    rw [inV_nats]
    exact q _ F3 H3 (g2.trans g3) rfl
theorem ev_inT {neg : Bool} (hk : Ev rNat ta σ F H k) (ha : Ev (rTup rNat) tb σ F H ns) : Ev rBl (tOp (rIn K neg) ta tb) σ F H (if neg then !decide (k ∈ ns) else decide (k ∈ ns)) := fun F1 H1 g1 Q q =>
  hk F1 H1 g1 _ fun v F2 H2 g2 r => ha F2 H2 (g1.trans g2) _ fun w F3 H3 g3 ⟨p, vs, e, hp, pr⟩ => by
    cases (show v = _ from r)
    have ev := nats_eq pr
    subst ev
    refine ⟨p, _, e, .inr (SqT.of (g3.fh _ _ hp)), rfl, flat_nats ns, ?_⟩
    rw [inV_nats]
    exact q _ F3 H3 (g2.trans g3) rfl
theorem ev_sortM (ha : Ev rRef ta σ F H l) (hl : H l = some (.lst (ns.map fun n : Nat => V.int (n : Int)))) (hz : ns.length < 64) : Ev (rLst rNat) (tCB (rSorted K) (tCons ta tNil)) σ F H (sortN ns) := fun F1 H1 g1 Q q =>
  ha F1 H1 g1 _ fun v F2 H2 g2 r => ⟨l, ns.map fun n : Nat => (n : Int), by rw [show v = _ from r], SqL.of (by rw [List.map_map]; exact g2.hx _ _ (g1.hx _ _ hl)), by rw [List.length_map]; exact hz, fun ys p hp hs hn => by
    rw [sorted_ints hp hs, List.map_map]
    exact q _ _ _ (g2.trans (.new g2.fh hn)) ⟨p, _, rfl, upd_same, nats_P _ _⟩⟩
/-- xs[i], of a list of numbers that may change -/
theorem ev_ixN {n : Nat} (ha : Ev rRef ta σ F H l) (hb : Ev rInt tb σ F H (k : Int)) (hl : H l = some (.lst (ns.map fun n : Nat => V.int (n : Int)))) (h : ns[k]? = some n) : Ev rNat (tOp (rIxL K) ta tb) σ F H n :=
  ev_ixM ha hb hl (atI_natL (by rw [List.getElem?_map, h]; rfl)) (show rNat F (V.int (n : Int)) n from rfl)
/-- t[n:], n not 0 -/
theorem ev_slT1 {n : Nat} (h : Ev (rTup R) te σ F H xs) (h0 : 1 ≤ n) (h1 : 1 ≤ xs.length) (m : Mn R := by infer_instance) : Ev (rTup R) (tSl (rSlT K) te (tPart (tC (.int (n : Int)))) tNoPart) σ F H (xs.drop n) := fun F1 H1 g1 Q q =>
  h F1 H1 g1 _ fun v F2 H2 g2 ⟨a, vs, e, hl, p⟩ => ⟨(n : Int), rfl, a, vs, e, SqT.of (g2.fh _ _ hl), fun z => by
    have := p.length
    rw [HT.sIx_nat] at z
    omega, fun B hB => by
    have g5 : Gr M0 F2 H2 (upd F2 B (.tup (cutV vs (some (n : Int)) none))) (upd H2 B (.tup (cutV vs (some (n : Int)) none))) := .new g2.fh hB
    refine q _ _ _ (g2.trans g5) ⟨B, _, rfl, upd_same, ?_⟩
    rw [← cut_from]
    exact Paired.up g5.ff (cut_paired p)⟩
/-- x = [e] * n, a list that may change -/
theorem x_repM {n a : Nat} (e : Ex F H) (h : Ev R te σ F H x) (hb : Ev rInt tb σ F H (n : Int)) (hn : n ≤ 1000000) (k : ∀ v l F' H', Gr M0 F H F' H' → R F' v x → H' l = none → D.nx (σ.set a (some (.ref l))) (upd H' l (.lst (List.replicate n v)))) (m : Mn R := by infer_instance) :
    tAsg (tOp rRep (tLst (tCons te tNil)) tb) (gName a) D σ H :=
  h F H (.refl e) _ fun v F1 H1 g1 r1 => ⟨by show 1 ≤ sizeLine; decide, fun c hc => by
    have g2 : Gr M0 F1 H1 (upd F1 c (.lst [v])) (upd H1 c (.lst [v])) := .new g1.fh hc
    refine hb _ _ (g1.trans g2) _ fun w F3 H3 g3 e2 => ?_
    refine ⟨c, (n : Int), [v], rfl, e2, g3.hx _ _ upd_same, by omega, by omega, by show 1 * ((n : Int)).toNat ≤ sizeLine; rw [sizeLine_eq]; omega, fun l hl => ?_⟩
    have er : (List.replicate ((n : Int)).toNat [v]).flatten = List.replicate n v := by
      rw [Int.toNat_natCast]
      exact flat_one v n
    rw [er]
    exact k v l F3 H3 (g1.trans (g2.trans g3)) (m.mono (g2.ff.trans g3.ff) r1) hl⟩
/-! comprehensions -/
/-- [elt for i, x in enumerate(list) if test] -/
theorem ev_lcEF (p : Nat → Bool) (f : Nat → γ) {a b : Nat} {ws : List Nat} (h : Ev (rLst R) tl σ F H xs) (hz : xs.length ≤ 1000000) (hw : ∀ v w, wipe (((wipe σ ws).set a (some v)).set b (some w)) ws = wipe σ ws)
    (ht : ∀ (i : Nat) x w F1 H1, xs[i]? = some x → Gr M0 F H F1 H1 → R F1 w x → EvT tt (((wipe σ ws).set a (some (.int (i : Int)))).set b (some w)) F1 H1 (p i))
    (he : ∀ (i : Nat) x w F1 H1, xs[i]? = some x → p i = true → Gr M0 F H F1 H1 → R F1 w x → Ev T te (((wipe σ ws).set a (some (.int (i : Int)))).set b (some w)) F1 H1 (f i)) (m : Mn R := by infer_instance) (m' : Mn T := by infer_instance) :
    Ev (rLst T) (tLc (iEnum K (tCons tl tNil)) (gTup K 2 (gCons (gName a) (gCons (gName b) gNil))) tt te ws) σ F H (((List.range xs.length).filter p).map f) := by
  intro F1 H1 g1 Q q
  refine h F1 H1 g1 _ fun v F2 H2 g2 ⟨c, vs, ea, hl, pr⟩ => ⟨c, vs, by rw [ea], SqL.of (g2.fh _ _ hl), fun D hD => ?_⟩
  have hlen := pr.length
  refine lc_it walk_enum (fun i H' => ∃ F' us, Gr M0 F2 H2 F' H' ∧ F' D = none ∧ H' D = some (.lst us) ∧ Paired (T F') us ((((List.range xs.length).take i).filter p).map f)) ⟨F2, [], .loc g2.fh hD, g2.fh.free hD, upd_same, .nil⟩ (fun i H' _ ⟨F', us, g, _⟩ => SqL.of (g.fh _ _ (g.ff _ _ hl))) ?_ ?_
  · rintro i w H' H4 hi ⟨F', us, g, fD, hD', pu⟩ ⟨B, u1, u2, rfl, hT, rfl, h1, h2⟩
    obtain ⟨x, hx, rx⟩ := Paired.getL pr h2
    have hu1 : u1 = V.int (i : Int) := by cases h1; rfl
    subst hu1
    have hr : (List.range xs.length)[i]? = some i := List.getElem?_range (by omega)
    have gB : Gr M0 F' H' F' (upd H' B (.tup [.int (i : Int), u2])) := .loc g.fh hT
    refine ⟨B, [.int (i : Int), u2], rfl, SqT.of upd_same, rfl, _, [u2], rfl, u2, [], rfl, rfl, hw _ _, ?_⟩
    have rx' := m.mono g.ff rx
    refine ht i x u2 F' _ hx (((g1.trans g2).trans g).trans gB) rx' F' _ (.refl gB.fh) _ fun F3 H3 g3 => ?_
    have e3 := take_filter_succ (p := p) (f := f) hr
    have g03 := gB.trans g3
    cases hp : p i with
    | false =>
      rw [hp] at e3
      refine ⟨F3, us, g.trans g03, g03.nn hD' fD, g03.hx _ _ hD', ?_⟩
      rw [e3]
      exact Paired.up g3.ff pu
    | true =>
      rw [hp] at e3
      refine he i x u2 F3 H3 hx hp (((g1.trans g2).trans g).trans g03) (m.mono g3.ff rx') F3 H3 (.refl g3.fh) _ fun u F4 H4 g4 r4 => ?_
      have g34 := g03.trans g4
      refine ⟨us, g34.hx _ _ hD', ?_, F4, us ++ [u], (g.trans g34).set' (g34.nn hD' fD) (.inl hD), g34.nn hD' fD, upd_same, ?_⟩
      · rw [pu.length, List.length_map, sizeLine_eq]
        have := List.length_filter_le p ((List.range xs.length).take i)
        rw [List.length_take, List.length_range] at this
        omega
      · rw [e3]
        exact (Paired.up (g3.ff.trans g4.ff) pu).snoc r4
  · rintro H' ⟨F', us, g, fD, hD', pu⟩
    rw [List.take_of_length_le (by rw [List.length_range, hlen]; exact Nat.le_refl _)] at pu
    exact q _ _ _ (g2.trans (g.frz hD' (g2.fh.free hD) (.inl hD))) ⟨D, us, rfl, upd_same, Paired.up (g.fh.frz hD' fD) pu⟩
/-- a list or a tuple -/
def rSq (t : Bool) (R : Rp α) : Rp (List α) := match t with
  | true => rTup R
  | false => rLst R
instance {t : Bool} [Mn R] : Mn (rSq t R) := by cases t <;> (unfold rSq; infer_instance)
theorem rSq_at {t : Bool} {F H : Hp} {v : V} (h : rSq t R F v xs) (e : Ex F H) : ∃ a vs, v = .ref a ∧ (∀ F' H', Ex F F' → Ex F' H' → SqX t K H' a vs) ∧ Paired (R F) vs xs := by
  cases t with
  | true => obtain ⟨a, vs, h1, h2, h3⟩ := h; exact ⟨a, vs, h1, fun F' H' e1 e2 => SqT.of (e2 _ _ (e1 _ _ h2)), h3⟩
  | false => obtain ⟨a, vs, h1, h2, h3⟩ := h; exact ⟨a, vs, h1, fun F' H' e1 e2 => SqL.of (e2 _ _ (e1 _ _ h2)), h3⟩
/-- [elt for x, y in zip(xs, ys) if test] -/
theorem ev_lcXF (t1 t2 : Bool) (p : α × β → Bool) (f : α × β → γ) {a b : Nat} {ws : List Nat} (ha : Ev (rSq t1 R) ta σ F H xs) (hb : Ev (rSq t2 S) tb σ F H ys) (hz : xs.length ≤ 1000000) (hw : ∀ v w, wipe (((wipe σ ws).set a (some v)).set b (some w)) ws = wipe σ ws)
    (ht : ∀ (n : Nat) q v w F1 H1, (xs.zip ys)[n]? = some q → Gr M0 F H F1 H1 → R F1 v q.1 → S F1 w q.2 → EvT tt (((wipe σ ws).set a (some v)).set b (some w)) F1 H1 (p q))
    (he : ∀ (n : Nat) q v w F1 H1, (xs.zip ys)[n]? = some q → p q = true → Gr M0 F H F1 H1 → R F1 v q.1 → S F1 w q.2 → Ev T te (((wipe σ ws).set a (some v)).set b (some w)) F1 H1 (f q)) (m : Mn R := by infer_instance) (m2 : Mn S := by infer_instance) (m' : Mn T := by infer_instance) :
    Ev (rLst T) (tLc (iZipX t1 t2 K (tCons ta (tCons tb tNil))) (gTup K 2 (gCons (gName a) (gCons (gName b) gNil))) tt te ws) σ F H (((xs.zip ys).filter p).map f) := by
  intro F1 H1 g1 Q q
  refine ha F1 H1 g1 _ fun v F2 H2 g2 rv => hb F2 H2 (g1.trans g2) _ fun v2 F3 H3 g3 rw_ => ?_
  obtain ⟨c, us1, rfl, sq1, pr1⟩ := rSq_at (K := K) (Mn.mono g3.ff rv) g3.fh
  obtain ⟨d, us2, rfl, sq2, pr2⟩ := rSq_at (K := K) rw_ g3.fh
  refine ⟨c, d, us1, us2, rfl, sq1 _ _ (Ex.refl _) g3.fh, sq2 _ _ (Ex.refl _) g3.fh, fun D hD => ?_⟩
  have hlen : (xs.zip ys).length = min us1.length us2.length := by rw [List.length_zip, pr1.length, pr2.length]
  refine lc_it (walk_zx hlen) (fun i H' => ∃ F' us, Gr M0 F3 H3 F' H' ∧ F' D = none ∧ H' D = some (.lst us) ∧ Paired (T F') us ((((xs.zip ys).take i).filter p).map f)) ⟨F3, [], .loc g3.fh hD, g3.fh.free hD, upd_same, .nil⟩ (fun i H' _ ⟨F', us, g, _⟩ => ⟨sq1 _ _ g.ff g.fh, sq2 _ _ g.ff g.fh⟩) ?_ ?_
  · rintro n w H' H4 hi ⟨F', us, g, fD, hD', pu⟩ ⟨B, u1, u2, rfl, hT, rfl, h1, h2⟩
    obtain ⟨x, hx, rx⟩ := Paired.getL pr1 h1
    obtain ⟨y, hy, ry⟩ := Paired.getL pr2 h2
    have hq : (xs.zip ys)[n]? = some (x, y) := List.getElem?_zip_eq_some.mpr ⟨hx, hy⟩
    have gB : Gr M0 F' H' F' (upd H' B (.tup [u1, u2])) := .loc g.fh hT
    refine ⟨B, [u1, u2], rfl, SqT.of upd_same, rfl, u1, [u2], rfl, u2, [], rfl, rfl, hw _ _, ?_⟩
    have rx' := m.mono g.ff rx
    have ry' := m2.mono g.ff ry
    refine ht n (x, y) u1 u2 F' _ hq ((((g1.trans g2).trans g3).trans g).trans gB) rx' ry' F' _ (.refl gB.fh) _ fun F5 H5 g5 => ?_
    have e3 := take_filter_succ (p := p) (f := f) hq
    have g05 := gB.trans g5
    cases hp : p (x, y) with
    | false =>
      rw [hp] at e3
      refine ⟨F5, us, g.trans g05, g05.nn hD' fD, g05.hx _ _ hD', ?_⟩
      rw [e3]
      exact Paired.up g5.ff pu
    | true =>
      rw [hp] at e3
      refine he n (x, y) u1 u2 F5 H5 hq hp ((((g1.trans g2).trans g3).trans g).trans g05) (m.mono g5.ff rx') (m2.mono g5.ff ry') F5 H5 (.refl g5.fh) _ fun u F6 H6 g6 r6 => ?_
      have g56 := g05.trans g6
      refine ⟨us, g56.hx _ _ hD', ?_, F6, us ++ [u], (g.trans g56).set' (g56.nn hD' fD) (.inl hD), g56.nn hD' fD, upd_same, ?_⟩
      · rw [pu.length, List.length_map, sizeLine_eq]
        have := List.length_filter_le p ((xs.zip ys).take n)
        rw [List.length_take, List.length_zip] at this
        omega
      · rw [e3]
        exact (Paired.up (g5.ff.trans g6.ff) pu).snoc r6
  · rintro H' ⟨F', us, g, fD, hD', pu⟩
    rw [List.take_length] at pu
    exact q _ _ _ ((g2.trans g3).trans (g.frz hD' (g3.fh.free hD) (.inl hD))) ⟨D, us, rfl, upd_same, Paired.up (g.fh.frz hD' fD) pu⟩
/-- for x, y in zip(xs, ys) -/
theorem x_forX (t1 t2 : Bool) {a b : Nat} (e : Ex F H) (ha : Ev (rSq t1 R) ta σ F H xs) (hb : Ev (rSq t2 S) tb σ F H ys) (Pv : Nat → St → Hp → Hp → Prop) (h0 : ∀ F1 H1, Gr M0 F H F1 H1 → Pv 0 σ F1 H1)
    (hst : ∀ n σ' F' H' F2 H2, Gr M0 F' H' F2 H2 → Pv n σ' F' H' → Pv n σ' F2 H2)
    (hs : ∀ F1, Ex F F1 → ∀ n q v w σ' F' H', (xs.zip ys)[n]? = some q → Ex F1 F' → Ex F' H' → R F' v q.1 → S F' w q.2 → Pv n σ' F' H' →
      ts { D with nx := fun σ2 H2 => ∃ F2, Ex F1 F2 ∧ Ex F2 H2 ∧ Pv (n + 1) σ2 F2 H2, ct := fun σ2 H2 => ∃ F2, Ex F1 F2 ∧ Ex F2 H2 ∧ Pv (n + 1) σ2 F2 H2, bk := D.nx } ((σ'.set a (some v)).set b (some w)) H')
    (hd : ∀ σ' F' H', Ex F F' → Ex F' H' → Pv (xs.zip ys).length σ' F' H' → D.nx σ' H') (m : Mn R := by infer_instance) (m2 : Mn S := by infer_instance) : tFor (iZipX t1 t2 K (tCons ta (tCons tb tNil))) (gTup K 2 (gCons (gName a) (gCons (gName b) gNil))) ts D σ H := by
  refine ha F H (.refl e) _ fun v F2 H2 g2 rv => hb F2 H2 g2 _ fun v2 F3 H3 g3 rw_ => ?_
  obtain ⟨c, us1, rfl, sq1, pr1⟩ := rSq_at (K := K) (Mn.mono g3.ff rv) g3.fh
  obtain ⟨d, us2, rfl, sq2, pr2⟩ := rSq_at (K := K) rw_ g3.fh
  refine ⟨c, d, us1, us2, rfl, sq1 _ _ (Ex.refl _) g3.fh, sq2 _ _ (Ex.refl _) g3.fh, ?_⟩
  have hlen : (xs.zip ys).length = min us1.length us2.length := by rw [List.length_zip, pr1.length, pr2.length]
  refine for_it (walk_zx hlen) (fun i σ' H' => ∃ F', Ex F3 F' ∧ Ex F' H' ∧ Pv i σ' F' H') ⟨F3, Ex.refl _, g3.fh, h0 F3 H3 (g2.trans g3)⟩ (fun i σ' H' _ ⟨F', e1, e2, _⟩ => ⟨sq1 _ _ e1 e2, sq2 _ _ e1 e2⟩) ?_ ?_
  · rintro n w σ' H' H4 hi ⟨F', e1, e2, pv⟩ ⟨B, u1, u2, rfl, hT, rfl, h1, h2⟩
    obtain ⟨x, hx, rx⟩ := Paired.getL pr1 h1
    obtain ⟨y, hy, ry⟩ := Paired.getL pr2 h2
    have hq : (xs.zip ys)[n]? = some (x, y) := List.getElem?_zip_eq_some.mpr ⟨hx, hy⟩
    have gB : Gr M0 F' H' F' (upd H' B (.tup [u1, u2])) := .loc e2 hT
    exact ⟨B, [u1, u2], rfl, SqT.of upd_same, rfl, u1, [u2], rfl, u2, [], rfl, rfl, hs F3 (g2.ff.trans g3.ff) n (x, y) u1 u2 σ' F' _ hq e1 gB.fh (m.mono e1 rx) (m2.mono e1 ry) (hst _ _ _ _ _ _ gB pv)⟩
  · rintro σ' H' ⟨F', e1, e2, pv⟩
    exact hd σ' F' H' ((g2.ff.trans g3.ff).trans e1) e2 pv
/-- x = [elt for k in range(n)], a list that may change -/
theorem x_lcRM {n j q : Nat} {ws : List Nat} {zs : List γ} (e : Ex F H) (h : Ev rInt ta σ F H (n : Int)) (hlen : zs.length = n) (hz : n ≤ 1000000) (hw : ∀ v, wipe ((wipe σ ws).set j (some v)) ws = wipe σ ws)
    (he : ∀ i y F1 H1, i < n → zs[i]? = some y → Gr M0 F H F1 H1 → Ev T te ((wipe σ ws).set j (some (.int (i : Int)))) F1 H1 y)
    (k : ∀ l us F' H', Gr M0 F H F' H' → H l = none → F' l = none → H' l = some (.lst us) → Paired (T F') us zs → D.nx (σ.set q (some (.ref l))) H') (m' : Mn T := by infer_instance) : tAsg (tLc (iRng1 (tCons ta tNil)) (gName j) tYes te ws) (gName q) D σ H := by
  refine h F H (.refl e) _ fun v F2 H2 g2 ea => ⟨(n : Int), by rw [show v = _ from ea], by omega, by omega, fun B hD => ?_⟩
  rw [Int.toNat_natCast]
  refine lc_range (lo := 0) (n := n) (fun i H' => ∃ F' us, Gr M0 F2 H2 F' H' ∧ F' B = none ∧ H' B = some (.lst us) ∧ Paired (T F') us (zs.take i)) ⟨F2, [], .loc g2.fh hD, g2.fh.free hD, upd_same, .nil⟩ ?_ ?_
  · rintro i H' hi ⟨F', us, g, fD, hD', pu⟩
    have hil : i < zs.length := by rw [hlen]; exact hi
    have hy : zs[i]? = some zs[i] := List.getElem?_eq_getElem hil
    have e0 : (0 : Int) + (i : Int) = (i : Int) := Int.zero_add _
    rw [e0]
    refine ⟨hw _, ?_⟩
    refine he i zs[i] F' H' hi hy (g2.trans g) F' H' (.refl g.fh) _ fun u F3 H3 g3 r3 => ?_
    refine ⟨us, g3.hx _ _ hD', ?_, F3, us ++ [u], (g.trans g3).set' (g3.nn hD' fD) (.inl hD), g3.nn hD' fD, upd_same, ?_⟩
    · rw [pu.length, List.length_take, sizeLine_eq]
      omega
    · rw [List.take_add_one, hy]
      exact (Paired.up g3.ff pu).snoc r3
  · rintro H' ⟨F', us, g, fD, hD', pu⟩
    rw [← hlen, List.take_length] at pu
    exact k B us F' H' (g2.trans g) (Ex.free g2.hx hD) fD hD' pu
end
/-! ### walks -/
structure Wlk where
  whole : Nat
  rows : List (List Nat)
  h0 : 1 ≤ whole
  h1 : whole ≤ 1000000
  h2 : 1 ≤ rows.length
  h3 : rows.length ≤ 32
  h4 : ∀ r ∈ rows, r.length = rows.length ∧ r.sum = whole
def Wlk.P (W : Wlk) (a b : Nat) : Nat := (W.rows.getD a []).getD b 0
theorem Wlk.row (W : Wlk) {a : Nat} (ha : a < W.rows.length) : (W.rows.getD a []).length = W.rows.length ∧ (W.rows.getD a []).sum = W.whole := W.h4 _ (List.mem_of_getElem? (at_getD ha))
theorem Wlk.chain (W : Wlk) : Chain W.rows.length W.P W.whole := ⟨W.h0, fun a ha => by
  obtain ⟨h1, h2⟩ := W.row ha
  rw [← h2, ← sumQ_list, h1]
  rfl⟩
theorem Wlk.le (W : Wlk) {a b : Nat} (ha : a < W.rows.length) (hb : b < W.rows.length) : W.P a b ≤ W.whole := by
  obtain ⟨h1, h2⟩ := W.row ha
  rw [← h2]
  exact sum_ge (List.mem_of_getElem? (at_getD (by rw [h1]; exact hb)))
def rWalk (C : Addr) : Rp Wlk := fun H v W => ∃ a dx l, v = .ref a ∧ H a = some (.ins C dx [("whole", .int (W.whole : Int)), ("rows", l)]) ∧ rLst (rLst rNat) H l W.rows
instance {C : Addr} : Mn (rWalk C) := ⟨fun e ⟨a, dx, l, h1, h2, h3⟩ => ⟨a, dx, l, h1, e _ _ h2, Mn.mono e h3⟩⟩
instance {C : Addr} : NotN (rWalk C) := ⟨fun ⟨_, _, _, h, _⟩ e => by rw [h] at e; cases e⟩
instance {C : Addr} : IsI (rWalk C) C "__len__" := ⟨fun ⟨a, dx, l, h1, h2, h3⟩ => ⟨a, dx, _, h1, h2, rfl⟩⟩
instance {C : Addr} : IsI (rWalk C) C "share" := ⟨fun ⟨a, dx, l, h1, h2, h3⟩ => ⟨a, dx, _, h1, h2, rfl⟩⟩
theorem fld_wwhole {K : PySem.W.Frag} {C : Addr} (c : Cls K C) (n : NoAttr K C "whole") : IsF (rWalk C) K "whole" rNat Wlk.whole := ⟨fun ⟨a, dx, l, h1, h2, h3⟩ => ⟨a, C, dx, _, _, h1, h2, c, n, rfl, rfl⟩⟩
theorem fld_wrows {K : PySem.W.Frag} {C : Addr} (c : Cls K C) (n : NoAttr K C "rows") : IsF (rWalk C) K "rows" (rLst (rLst rNat)) Wlk.rows := ⟨fun ⟨a, dx, l, h1, h2, h3⟩ => ⟨a, C, dx, _, _, h1, h2, c, n, rfl, h3⟩⟩
def SpWalk (C : Addr) : Sp := fun vs H Q _ => ∃ (F : Hp) (a dx : Addr) (l : V) (W : Wlk), vs = [.ref a, .int (W.whole : Int), l] ∧ Ex F H ∧ F a = none ∧ H a = some (.ins C dx []) ∧ rLst (rLst rNat) F l W.rows ∧
  ∀ F' H', Gr (M1 a) F H F' H' → rWalk C F' (.ref a) W → Q .non H'
instance {C : Addr} : SpLen (SpWalk C) 3 := ⟨fun ⟨_, _, _, _, _, h, _⟩ => by rw [h]; rfl⟩
theorem ev_Walk {σ : St} {F H : Hp} {ta tb : TE} {C : Addr} {W : Wlk} {E : XK} (ha : Ev rInt ta σ F H (W.whole : Int)) (hb : Ev (rLst (rLst rNat)) tb σ F H W.rows) : Ev (rWalk C) (tMake C (SpWalk C) [] E (tCons ta (tCons tb tNil))) σ F H W := fun F1 H1 g1 Q q =>
  ha F1 H1 g1 _ fun v F2 H2 g2 r => hb F2 H2 (g1.trans g2) _ fun w F3 H3 g3 r3 => fun x dx nx ndx nex => by
    cases (show v = _ from r)
    have e1 : Ex F3 (upd (upd H3 dx (.own x)) x (.ins C dx [])) := (g3.fh.mut (g3.fh.free ndx)).mut (g3.fh.free nx)
    exact ⟨F3, x, dx, w, W, rfl, e1, g3.fh.free nx, upd_same, r3, fun F' H' g k => ⟨rfl, q _ F' H' ((g2.trans g3).trans (.made (M := M0) nx ndx nex.symm g)) k⟩⟩
/-- the walk as which turns go -/
def cntM (ms : List (List Nat)) (p q : Nat) : Nat := (ms.filter fun m => decide (m.getD p 0 = q)).length
def walkRows (t : Tn) : List (List Nat) := (List.range t.many).map fun p => (List.range t.many).map fun q => cntM t.maps p q
theorem cnt_sum {n p : Nat} : ∀ {ms : List (List Nat)}, (∀ m ∈ ms, m.getD p 0 < n) → ((List.range n).map fun q => cntM ms p q).sum = ms.length
  | [], _ => by
    have : ∀ l : List Nat, (l.map fun q => cntM [] p q).sum = 0 := fun l => by
      induction l with
      | nil => rfl
      | cons a l ih => rw [List.map_cons, List.sum_cons, ih]; rfl
    exact this _
  | m :: ms, h => by
    have ih := cnt_sum (n := n) (p := p) (ms := ms) fun m' hm' => h m' (List.mem_cons_of_mem _ hm')
    have hm := h m List.mem_cons_self
    have e : ∀ q, cntM (m :: ms) p q = (if m.getD p 0 = q then 1 else 0) + cntM ms p q := fun q => by
      unfold cntM
      rw [List.filter_cons]
      by_cases z : m.getD p 0 = q
      · rw [if_pos (decide_eq_true z), if_pos z, List.length_cons]; omega
      · rw [if_neg (by rw [decide_eq_false z]; exact Bool.false_ne_true), if_neg z]; omega
    have s : ∀ (l : List Nat) (f g : Nat → Nat), (l.map fun q => f q + g q).sum = (l.map f).sum + (l.map g).sum := fun l f g => by
      induction l with
      | nil => rfl
      | cons a l ih => rw [List.map_cons, List.map_cons, List.map_cons, List.sum_cons, List.sum_cons, List.sum_cons, ih]; omega
    have one : ∀ (k c : Nat), c < k → ((List.range k).map fun q => if c = q then 1 else 0).sum = 1 := fun k c hc => by
      induction k with
      | zero => omega
      | succ k ih =>
        rw [List.range_succ, List.map_append, List.sum_append, List.map_cons, List.map_nil, List.sum_cons, List.sum_nil]
        by_cases z : c = k
        · have z0 : ∀ j, j ≤ k → ((List.range j).map fun q => if c = q then 1 else 0).sum = 0 := fun j hj => by
            induction j with
            | zero => rfl
            | succ j ih2 =>
              rw [List.range_succ, List.map_append, List.sum_append, ih2 (by omega), List.map_cons, List.map_nil, List.sum_cons, List.sum_nil, if_neg (by omega)]
              rfl
          rw [z0 k (Nat.le_refl _), if_pos z]
          rfl
        · rw [ih (by omega), if_neg z]
          rfl
    rw [List.map_congr_left fun q _ => e q, s, ih, one n _ hm, List.length_cons]
    omega
def walkM (t : Tn) : Wlk where
  whole := t.maps.length
  rows := walkRows t
  h0 := t.h2
  h1 := Nat.le_trans t.h3 (by decide)
  h2 := by unfold walkRows; rw [List.length_map, List.length_range]; exact t.h0
  h3 := by unfold walkRows; rw [List.length_map, List.length_range]; exact t.h1
  h4 := fun r hr => by
    unfold walkRows at hr ⊢
    obtain ⟨p, hp, rfl⟩ := List.mem_map.mp hr
    have hp := List.mem_range.mp hp
    refine ⟨by rw [List.length_map, List.length_range, List.length_map, List.length_range], cnt_sum fun m hm => ?_⟩
    obtain ⟨h1, h2⟩ := t.h4 m hm
    exact h2 _ (List.mem_of_getElem? (at_getD (by rw [h1]; exact hp)))
theorem walk_n (t : Tn) : (walkM t).rows.length = t.many := by show (walkRows t).length = _; unfold walkRows; rw [List.length_map, List.length_range]
theorem walk_P (t : Tn) {p q : Nat} (hp : p < t.many) (hq : q < t.many) : (walkM t).P p q = cntM t.maps p q := by
  show ((walkRows t).getD p []).getD q 0 = _
  unfold walkRows
  rw [getD_range hp, getD_range hq]
/-- what is found by looking on is all that is come to -/
theorem found_reach {n : Nat} {P : Nat → Nat → Nat} {p : Nat} {xs : List Nat} (hp : p < n) (nd : xs.Nodup) (h0 : p ∈ xs) (h1 : ∀ x ∈ xs, Rch (stepC n P) p x) (h2 : ∀ x ∈ xs, ∀ t, t < n → 0 < P x t → t ∈ xs) : sortN xs = reachC n P p := by
  have all : ∀ q, Rch (stepC n P) p q → q ∈ xs := fun q h => by
    induction h with
    | refl => exact h0
    | step _ e ih => exact h2 _ ih _ e.1 e.2
  have hs : (reachC n P p).Pairwise (· ≤ ·) := by
    unfold reachC
    refine List.Pairwise.filter _ ?_
    exact List.pairwise_le_range
  have hnd : (reachC n P p).Nodup := by unfold reachC; exact List.nodup_range.filter _
  refine sorted_eq ((sort_perm xs).trans ((List.perm_ext_iff_of_nodup nd hnd).mpr fun q => ?_)) (sort_sorted xs) hs
  rw [mem_reach hp]
  exact ⟨fun h => h1 q h, fun h => all q h⟩
noncomputable def reachW (W : Wlk) (p : Nat) : List Nat := reachC W.rows.length W.P p
noncomputable def closedW (W : Wlk) : List (List Nat) := closedC W.rows.length W.P
noncomputable def restWk (W : Wlk) : List Rat := restW W.rows.length W.P W.whole ((closedW W).headD [])
/-- the shares laid into the row, one behind another -/
theorem spread_take {C : List Nat} {n k : Nat} (v : Nat → Rat) (nd : C.Nodup) (hk : k < C.length) (hC : ∀ a ∈ C, a < n) :
    ((List.range n).map fun a => sumQ k fun j => if C.getD j 0 = a then v j else 0).set (C.getD k 0) (v k) = (List.range n).map fun a => sumQ (k + 1) fun j => if C.getD j 0 = a then v j else 0 := by
  have hm : C.getD k 0 < n := hC _ (List.mem_of_getElem? (at_getD hk))
  refine ext_getD 0 (by rw [List.length_set, List.length_map, List.length_map]) fun a ha => ?_
  rw [List.length_set, List.length_map, List.length_range] at ha
  rw [getD_range ha]
  show _ = (sumQ k fun j => if C.getD j 0 = a then v j else 0) + (if C.getD k 0 = a then v k else 0)
  by_cases z : C.getD k 0 = a
  · rw [if_pos z, z, getD_eq (by rw [List.getElem?_set_self (by rw [List.length_map, List.length_range]; omega)]), sumQ_zero fun j hj => if_neg fun z2 => ?_]
    · exact (Rat.zero_add _).symm
    · have h1 := at_getD (d := 0) (show j < C.length by omega)
      have h2 := at_getD (d := 0) hk
      rw [z2, ← z] at h1
      have := (List.getElem?_inj (by omega) nd).mp (h1.trans h2.symm)
      omega
  · rw [if_neg z, List.getD_eq_getElem?_getD, List.getElem?_set_ne z, ← List.getD_eq_getElem?_getD, getD_range ha]
    exact (Rat.add_zero _).symm
theorem rest_big {c : Nat} (h : c ≤ 32) : c ^ c * 1000000 ^ c ≤ 2 ^ 800 := by
  have h1 : c ^ c ≤ 32 ^ 32 := Nat.le_trans (Nat.pow_le_pow_left h c) (Nat.pow_le_pow_right (by omega) h)
  have h2 : 1000000 ^ c ≤ (2 ^ 20) ^ 32 := Nat.le_trans (Nat.pow_le_pow_left (show 1000000 ≤ 2 ^ 20 by decide) c) (Nat.pow_le_pow_right (by decide) h)
  have h3 : 32 ^ 32 * (2 ^ 20) ^ 32 = 2 ^ 800 := by
    rw [show (32 : Nat) = 2 ^ 5 by decide, ← Nat.pow_mul, ← Nat.pow_mul, ← Nat.pow_add]
  exact Nat.le_trans (Nat.mul_le_mul h1 h2) (Nat.le_of_eq h3)
/-- shares of the resting row -/
theorem rest_over {W : Wlk} {C : List Nat} (hC : closedW W = [C]) : ∃ D : Int, D ≠ 0 ∧ D.natAbs < 2 ^ 4000 ∧ ∀ x ∈ restWk W, ∃ p : Int, x = Rat.divInt p D ∧ p.natAbs ≤ 2 ^ 800 := by
  have sv := rest_solv W.chain W.h3 W.h1 (fun a b ha hb => W.le ha hb) hC
  obtain ⟨m, hm, hCm, hmC, hall⟩ := closed_in (n := W.rows.length) (P := W.P) (C := C) (by rw [show closedC W.rows.length W.P = [C] from hC]; exact List.mem_singleton.mpr rfl)
  have hne : C ≠ [] := List.ne_nil_of_mem hmC
  have hlen : C.length ≤ W.rows.length := by
    rw [hCm]
    unfold reachC
    exact Nat.le_trans (List.length_filter_le _ _) (by rw [List.length_range]; exact Nat.le_refl _)
  have hlen2 := rest_len (P := W.P) (W := W.whole) hne
  have hnd : C.Nodup := by rw [hCm]; exact List.nodup_range.filter _
  have h3 := W.h3
  obtain ⟨D, hD, hD2, h⟩ := solR_over sv
  refine ⟨D, hD, hD2, fun x hx => ?_⟩
  unfold restWk at hx
  rw [hC] at hx
  unfold restW at hx
  obtain ⟨a, ha, rfl⟩ := List.mem_map.mp hx
  by_cases haC : a ∈ C
  · obtain ⟨j, hj⟩ := List.mem_iff_getElem?.mp haC
    have hjl := (List.getElem?_eq_some_iff.mp hj).1
    have ea : C.getD j 0 = a := getD_eq hj
    obtain ⟨p, h1, h2⟩ := h j 0 (by omega) (by omega)
    refine ⟨p, ?_, ?_⟩
    · show spread C (fun j => ((solR (restRows W.P W.whole C) (C.length + 1)).getD j []).getD 0 0) a = _
      rw [← ea]
      exact (spread_at hnd hjl _).trans h1
    · rw [hlen2] at h2
      exact Nat.le_trans h2 (rest_big (by omega))
  · refine ⟨0, ?_, Nat.zero_le _⟩
    rw [zero_div]
    exact spread_off haC _
theorem rest_sumOk {W : Wlk} {C : List Nat} (hC : closedW W = [C]) {xs : List Rat} (h : ∀ x ∈ xs, x ∈ restWk W) (hl : xs.length ≤ 32) : SumOk xs := by
  obtain ⟨D, h1, h2, h3⟩ := rest_over hC
  refine ⟨D, 2 ^ 800, ⟨h1, fun x hx => h3 x (h x hx)⟩, h2, ?_, by omega⟩
  have : xs.length * 2 ^ 800 ≤ 2 ^ 5 * 2 ^ 800 := Nat.mul_le_mul_right _ (show xs.length ≤ 2 ^ 5 by omega)
  rw [← Nat.pow_add] at this
  exact Nat.lt_of_le_of_lt this (Nat.pow_lt_pow_right (by omega) (by omega))
end El

set_option Elab.async false
set_option linter.all false
set_option maxRecDepth 100000
set_option maxHeartbeats 4000000
namespace El
open PySem PySem.Spec L2
section
variable {K : PySem.W.Frag} {σ : St} {F H F' H' : Hp} {ta tb tc td te tl : TE} {tr : TA} {tt : TT} {α β γ δ : Type} {R : Rp α} {S : Rp β} {T : Rp γ} {x : α} {y : β} {xs : List α} {ys : List β} {D : Ends} {ts : TS} {E : XK} {i j : Int} {a : Addr} {c c1 c2 N : Nat}
/-- lists whose items are drawn -/
def EvLS {α : Type} (a : Addr) (c : Nat) (R : Rp α) (ta : TA) (σ : St) (F H : Hp) (P : List α → Prop) : Prop :=
  ∀ F1 H1 N, Gr (M1 a) F H F1 H1 → F1 a = none → Src H1 a (N + c) → ∀ Q : List V → Hp → Prop, (∀ vs xs F2 H2, Gr (M1 a) F1 H1 F2 H2 → F2 a = none → Src H2 a N → P xs → Paired (R F2) vs xs → Q vs H2) → ta σ H1 Q
theorem els_nil : EvLS a 0 R tNil σ F H (fun l => l = []) := fun F1 H1 N g fa s Q q => q [] [] F1 H1 (.refl g.fh) fa s rfl .nil
theorem els_cons {P1 : α → Prop} {P2 : List α → Prop} (ha : EvS a c1 R ta σ F H P1) (hr : EvLS a c2 R tr σ F H P2) (m : Mn R := by infer_instance) : EvLS a (c1 + c2) R (tCons ta tr) σ F H (fun l => ∃ x xs, l = x :: xs ∧ P1 x ∧ P2 xs) := fun F1 H1 N g fa s Q q =>
  ha F1 H1 (N + c2) g fa (s.le (by omega)) _ fun v x F2 H2 g2 fa2 s2 p1 r1 => hr F2 H2 N (g.trans g2) fa2 s2 _ fun vs xs F3 H3 g3 fa3 s3 p2 r2 => q (v :: vs) (x :: xs) F3 H3 (g2.trans g3) fa3 s3 ⟨x, xs, rfl, p1, p2⟩ (.cons (m.mono g3.ff r1) r2)
theorem es_lst {P : List α → Prop} (h : EvLS a c R tr σ F H P) (hz : ∀ xs, P xs → xs.length ≤ sizeLine) (m : Mn R := by infer_instance) : EvS a c (rLst R) (tLst tr) σ F H P := fun F1 H1 N g fa s Q q =>
  h F1 H1 N g fa s _ fun vs xs F2 H2 g2 fa2 s2 p r => ⟨by rw [r.length]; exact hz xs p, fun B hB => by
    have g3 : Gr M0 F2 H2 (upd F2 B (.lst vs)) (upd H2 B (.lst vs)) := .new g2.fh hB
    obtain ⟨o, ho⟩ := s2.someO
    exact q _ xs _ _ (g2.trans g3.up) (g3.nn ho fa2) (s2.gr g3) p ⟨B, vs, rfl, upd_same, Paired.up g3.ff r⟩⟩
theorem x_forLS {n : Nat} {P : List α → Prop} (h : EvS a c (rLst R) tl σ F H P) (e : Ex F H) (fa : F a = none) (s : Src H a N) (hc : c ≤ N)
    (k : ∀ xs, P xs → ∀ F1 H1, Gr (M1 a) F H F1 H1 → F1 a = none → Src H1 a (N - c) → ∃ Pv : Nat → St → Hp → Hp → Prop, Pv 0 σ F1 H1 ∧
      (∀ i x v σ' F' H', xs[i]? = some x → Ex F1 F' → Ex F' H' → R F' v x → Pv i σ' F' H' →
        ts { D with nx := fun σ2 H2 => ∃ F2, Ex F1 F2 ∧ Ex F2 H2 ∧ Pv (i + 1) σ2 F2 H2, ct := fun σ2 H2 => ∃ F2, Ex F1 F2 ∧ Ex F2 H2 ∧ Pv (i + 1) σ2 F2 H2, bk := D.nx } (σ'.set n (some v)) H') ∧
      ∀ σ' F' H', Ex F1 F' → Ex F' H' → Pv xs.length σ' F' H' → D.nx σ' H') (m : Mn R := by infer_instance) : tFor (iList K tl) (gName n) ts D σ H := by
  refine h F H (N - c) (.refl e) fa (s.le (by omega)) _ fun v xs F1 H1 g1 fa1 s1 p ⟨b, vs, eb, hl, pr⟩ => ⟨b, eb, ⟨vs, SqL.of (g1.fh _ _ hl)⟩, ?_⟩
  obtain ⟨Pv, h0, hs, hd⟩ := k xs p F1 H1 g1 fa1 s1
  refine for_list (xs := vs) (fun i σ' H' => ∃ F', Ex F1 F' ∧ Ex F' H' ∧ Pv i σ' F' H') ⟨F1, Ex.refl _, g1.fh, h0⟩ (fun i σ' H' _ ⟨F', e1, e2, _⟩ => SqL.of (e2 _ _ (e1 _ _ hl))) ?_ ?_
  · rintro i w σ' H' hi ⟨F', e1, e2, pv⟩
    obtain ⟨x, hx, rx⟩ := Paired.getL pr hi
    exact hs i x w σ' F' H' hx e1 e2 (m.mono e1 rx) pv
  · rintro σ' H' ⟨F', e1, e2, pv⟩
    rw [pr.length] at pv
    exact hd σ' F' H' e1 e2 pv
theorem ets_or {t u : TT} {P1 P2 : Bool → Prop} (h1 : EvTS a c1 t σ F H P1) (h2 : EvTS a c2 u σ F H P2) : EvTS a (c1 + c2) (tOr t u) σ F H (fun b => (b = true ∧ P1 true) ∨ (P1 false ∧ P2 b)) := fun F1 H1 N g fa s Q q =>
  h1 F1 H1 (N + c2) g fa (s.le (by omega)) _ fun b F2 H2 g2 fa2 s2 p => by
    cases b with
    | false => exact h2 F2 H2 N (g.trans g2) fa2 s2 _ fun b F3 H3 g3 fa3 s3 p3 => q b F3 H3 (g2.trans g3) fa3 s3 (.inr ⟨p, p3⟩)
    | true => exact q true F2 H2 g2 fa2 (s2.le (by omega)) (.inl ⟨rfl, p⟩)
theorem ets_not {t : TT} {P1 : Bool → Prop} (h1 : EvTS a c1 t σ F H P1) : EvTS a c1 (tNot t) σ F H (fun b => P1 (!b)) := fun F1 H1 N g fa s Q q =>
  h1 F1 H1 N g fa s _ fun b F2 H2 g2 fa2 s2 p => q (!b) F2 H2 g2 fa2 s2 (by show P1 (!!b); rw [Bool.not_not]; exact p)
end
end El

set_option Elab.async false
set_option linter.all false
set_option maxRecDepth 100000
set_option maxHeartbeats 4000000
namespace El
open PySem PySem.Spec L2 PyProof.Rows
/-! ### a set made of a list of whole numbers -/
/-- an empty set, as it is made -/
abbrev nuS (w : World) : Obj := { cls := .type "set", dict := none, data := .set #[] 0 (.fresh 0 0 (!w.params.followText "set-order")) }
section
variable {P : Program} {w : World} {A : Around} {E : Value → Shared → Prop} {s : Shared}
theorem call_setL {l : Addr} {items : Array Value} (ns : List Int) {Q : Value → Shared → Prop} (hh : A.handled = none) (hl : s.heap.IsList l items) (hit : IntsAre items.toList ns) (hb : ns.length + 1 < scanBound)
    (h : ∀ (h' : Heap) (tk c : Nat), SetR w h' s.heap.objs.size (fun j => decide (j ∈ ns)) c → c ≤ ns.length → (∀ b o, s.heap.get? b = some o → h'.get? b = some o) → Q (.ref s.heap.objs.size) { s with heap := h', toks := tk }) :
    wpAny (model P w) A (call (.type "set") [.ref l]) Q E s := by
  have hisz : items.size = ns.length := (Array.length_toList (xs := items)).symm.trans (IntsAre.length hit)
  obtain ⟨_, _, hmro⟩ := F.called_set.mro
  have hmade := F.called_set.made
  have hsub := F.called_set.sub
  have n1 := F.called_set.notType
  have n2 := F.called_set.canCreate
  have n3 := F.typeCall_set_1 (.ref l)
  refine wpAny_call (codeAny_of_tree ?_)
  show wpAny _ _ (callAny (.type "set") _) _ _ _
  refine wpAny_pure ⟨Code.quiet_builtin _ (by decide +kernel), codeAny_builtin F.entry_type_call ?_⟩
  rw [Around.under_plain (weight_type_call_type "set" [.ref l] []) rfl]
  repeat (any_goals (first | assumption | wp_step))
  refine codeAny_mono (code_set_led1 (.ref l) (E := E) (Q₁ := fun v s1 => v = .ref s.heap.objs.size ∧ s1 = { s with heap := s.heap.push (nuS w) }) ⟨rfl, rfl⟩) fun r s1 hr => ?_
  cases r with
  | error e => exact hr
  | ok fl => cases fl with
    | ret v =>
      obtain ⟨rfl, rfl⟩ := hr
      have hS : (s.heap.push (nuS w)).get? s.heap.objs.size = some (nuS w) := Heap.get?_push_size _ rfl
      have hT : Shared.TypeIs { s with heap := s.heap.push (nuS w) } (.ref s.heap.objs.size) "set" := ⟨_, hS, rfl⟩
      have i1 := F.called_set.init.lookup
      have i2 := F.called_set.init.bind (.ref s.heap.objs.size)
      repeat (any_goals (first | assumption | wp_step))
      refine codeAny_mono (codeAny_call_builtin (R := wants (fun r s2 => r = .none ∧ ∃ h' tk c, s2 = { s with heap := h', toks := tk } ∧ SetR w h' s.heap.objs.size (fun j => decide (j ∈ ns)) c ∧ c ≤ ns.length ∧ ∀ b o, s.heap.get? b = some o → h'.get? b = some o) E)
        F.called_set.init.plain F.entry_set_init (check_set_init_1 hT ?_)) fun r s2 hr2 => ?_
      · obtain ⟨⟨_, dct, _, sl⟩, hol, hcl, nl, hdl⟩ := hl
        simp only at hcl hdl
        subst hcl; subst hdl
        have hol1 : (s.heap.push (nuS w)).get? l = some { cls := .type "list", dict := dct, data := .seq items nl, slots := sl } := Heap.get?_push_of_some _ hol
        have u1 := F.sub_list_set
        have u2 := F.sub_list_frozenset
        have u3 : (Value.type "list" == Value.type "dict") = false := by decide
        have hl1 : (s.heap.push (nuS w)).IsList l items := ⟨_, hol1, rfl, nl, rfl⟩
        have lS : l < s.heap.objs.size := Heap.lt_size hol
        have zS : (s.heap.push (nuS w)).objs.size = s.heap.objs.size + 1 := Heap.size_push ..
        unfold Builtin.«set.__init__» noKeywords Builtin.Frozenset.updateFrom
        generalize hPI : pyIter = PI
        wp_walk
        subst hPI
        refine wpAny_pyIter_list hl1 ?_
        refine wpAny_bind (wpAny_runValue ?_)
        have hh3 : A.in1.in1.in1.handled = none := by simp [hh]
        have ne1 : l ≠ (s.heap.push (nuS w)).objs.size := by rw [zS]; exact Nat.ne_of_lt (Nat.lt_succ_of_lt lS)
        have ne2 : s.heap.objs.size ∉ [(s.heap.push (nuS w)).objs.size, l] := by
          intro hm
          rcases List.mem_cons.mp hm with e | e
          · rw [zS] at e; exact Nat.ne_of_lt (Nat.lt_succ_self _) e
          · exact Nat.ne_of_gt lS (List.mem_singleton.mp e)
        have hval : ∀ (i : Nat) (v : Value), items[i]? = some v → ∃ k t, ns[i]? = some k ∧ v = .int k t := fun i v hv => by
          have hi : i < ns.length := by rw [← hisz]; exact (Array.getElem?_eq_some_iff.mp hv).1
          obtain ⟨t, e⟩ := IntsAre.int_at hit i v (by rw [Array.getElem?_toList]; exact hv)
          refine ⟨ns[i], t, List.getElem?_eq_getElem hi, ?_⟩
          rw [e, List.getD_eq_getElem?_getD, List.getElem?_eq_getElem hi] <;> rfl
        refine set_update_ints ((Walks.list hh3 _ l ne1 items).toS) s.heap.objs.size ne2 ns hisz hb hval (items.size - 0) 0 _ (by omega) (Nat.zero_le _)
          ⟨⟨_, Heap.get?_push_size _ rfl, rfl, rfl⟩, hl1.push _⟩ ⟨0, Nat.le_refl 0, setR_new_at (Heap.get?_push_of_some _ hS)⟩ fun s3 c hm hc hR => ?_
        obtain ⟨h3, g3, d3, tk3, os3⟩ := s3
        cases (show g3 = s.gens from hm.gens)
        cases (show d3 = s.drawn from hm.drawn)
        cases (show os3 = s.os from hm.os)
        show wpAny _ _ _ _ _ _
        refine wpAny_pure ?_
        show wpAny _ _ (ret Value.none) _ _ _
        rw [hisz] at hc
        refine wpAny_pure ⟨rfl, h3, tk3, c, rfl, hR, hc, fun b o e => ?_⟩
        have lb := Heap.lt_size e
        refine hm.heap b o (fun hmem => ?_) (Heap.get?_push_of_some _ (Heap.get?_push_of_some _ e))
        rcases List.mem_cons.mp hmem with z | z
        · exact Nat.ne_of_lt lb z
        · have z := List.mem_singleton.mp z
          rw [zS] at z
          exact Nat.ne_of_lt (Nat.lt_succ_of_lt lb) z
      · cases r with
        | error e => exact hr2
        | ok fl2 => cases fl2 with
          | ret r =>
            obtain ⟨rfl, h3, tk3, c, rfl, hR, hc, hk⟩ := hr2
            repeat (any_goals (first | assumption | wp_step))
            exact h _ _ _ hR hc hk
          | _ => exact hr2.elim
    | _ => exact hr.elim
end
/-- sorted(set(l)) of a list of whole numbers -/
def tSortSet (K : PySem.W.Frag) (ta : TE) : TE := fun σ H Q => ta σ H fun x H1 => ∃ (l : Addr) (ns : List Int), x = .ref l ∧ SqL K H1 l (ns.map V.int) ∧ ns.length < 64 ∧ ∀ (out : List Int) (p : Addr), out.Pairwise (· < ·) → (∀ k, k ∈ out ↔ k ∈ ns) → H1 p = none → Q (.ref p) (upd H1 p (.lst (out.map V.int)))
theorem pe_sortSet {X : Cx} {a : Expr} {ta : TE} {p p2 q pos : Pos} (hg : Gl X "sorted") (hm : X.mg "sorted" = none) (hg2 : Gl X "set") (hm2 : X.mg "set" = none) (ha : PE X a ta) (hc : X.calm = true := by rfl)
    (na : starEach [a] X.env = (false, eval a X.env) :: starEach [] X.env := by rfl) : PE X (.Call (.Name "sorted" p) [.Call (.Name "set" p2) [a] [] q] [] pos) (tSortSet X.K ta) := by
  refine ⟨fun pins s σ H Q I h => ?_⟩
  refine Call_ (ld_blt I hg hm boot_sorted ?_)
  refine callWith_builtin1 (args_cons ?_ rfl) rfl rfl
  refine Call_ (ld_blt I hg2 hm2 boot_set ?_)
  refine callWith_type1 (args_cons (thn (ha.run pins s σ H _ I h) fun v s1 ⟨x, H1, I1, r1, q1⟩ => args_nil ?_) na) na rfl
  obtain ⟨l, ns, rfl, hq, hl, q1⟩ := q1
  cases r1
  obtain ⟨its, r, pl, hz⟩ := I1.list hq
  refine call_setL ns (I1.ok.hd hc) pl.isList (by simpa using ints_of_vals r) (by unfold scanBound; omega) fun h' tk c R1 hcn k => ?_
  refine args_nil ?_
  have I2 : Inv X pins σ H1 { s1 with heap := h', toks := tk } := I1.kept fun b o e => k b o e
  refine sorted_set R1 (I2.ok.hd hc) (by omega) fun s' p out cc ms k2 g o hp hget hi hs hmem hlen => ?_
  have hlz : (ms.map V.int).length ≤ sizeLine := by rw [List.length_map, hlen, sizeLine_eq]; omega
  have hn : H1 p = none := I2.hok.fresh hp
  have J : Inv X pins σ (upd H1 p (.lst (ms.map V.int))) { { s1 with heap := h', toks := tk } with heap := s'.heap, gens := s'.gens, drawn := s'.drawn, toks := s'.toks } :=
    I2.call (ch := []) (Un.laid k2 hp hn) (I2.hok.laid k2 hp ⟨hlz, out.toList, cc, vals_of_ints hi, hget⟩) (by rw [g]; exact I2.bare) (fun _ z => nomatch z)
  have e : s' = { { s1 with heap := h', toks := tk } with heap := s'.heap, gens := s'.gens, drawn := s'.drawn, toks := s'.toks } := by
    cases s'
    cases s1
    cases o
    rfl
  rw [e]
  exact ⟨.ref p, _, J, rfl, q1 ms p hs (fun j => by rw [hmem j, decide_eq_true_eq]) hn⟩
theorem ksortset {K : PySem.W.Frag} {X : Cx} {a : Expr} {ta : TE} {p p2 q pos : Pos} (hg : Gl X "sorted") (hm : X.mg "sorted" = none) (hg2 : Gl X "set") (hm2 : X.mg "set" = none) (ha : PE X a ta) (hc : X.calm = true := by rfl)
    (na : starEach [a] X.env = (false, eval a X.env) :: starEach [] X.env := by rfl) (hK : X.K = K := by rfl) : PE X (.Call (.Name "sorted" p) [.Call (.Name "set" p2) [a] [] q] [] pos) (tSortSet K ta) := by
  subst hK
  exact pe_sortSet hg hm hg2 hm2 ha hc na
section
variable {K : PySem.W.Frag} {σ : L2.St} {F H : Hp} {ta : TE}
theorem ev_sortSet {ns : List Nat} (ha : Ev (rLst rNat) ta σ F H ns) (hz : ns.length < 64) : Ev (rLst rNat) (tSortSet K ta) σ F H (sortN (uniq ns)) := fun F1 H1 g1 Q q =>
  ha F1 H1 g1 _ fun v F2 H2 g2 ⟨a, vs, e, hl, p⟩ => ⟨a, ns.map fun n : Nat => (n : Int), e, by rw [← nats_paired p]; exact SqL.of (g2.fh _ _ hl), by rw [List.length_map]; exact hz, fun out B hs hm hn => by
    have hd : out.Nodup := hs.imp fun {a b} h => by omega
    have hnd : ((uniq ns).map fun n : Nat => (n : Int)).Nodup := by
      refine List.Pairwise.map _ ?_ (nodup_uniq ns)
      intro a b h e
      exact h (by omega)
    have pm : out.Perm ((uniq ns).map fun n : Nat => (n : Int)) := (List.perm_ext_iff_of_nodup hd hnd).mpr fun k => by
      rw [hm, List.mem_map, List.mem_map]
      exact ⟨fun ⟨n, h, e⟩ => ⟨n, mem_uniq.mpr h, e⟩, fun ⟨n, h, e⟩ => ⟨n, mem_uniq.mp h, e⟩⟩
    have e2 := sorted_ints pm (hs.imp fun {a b} h => by omega)
    rw [e2, List.map_map]
    exact q _ _ _ (g2.trans (.new g2.fh hn)) ⟨B, _, rfl, upd_same, nats_P _ _⟩⟩
end
end El

set_option Elab.async false
set_option linter.all false
set_option maxRecDepth 100000
set_option maxHeartbeats 4000000
namespace El
open PySem PySem.Spec L2 PyProof.Rows
/-! ### several except clauses, some of them with a name -/
structure Cls3 where
  c : Value
  nm : Option Nat
  ts : Addr → Value → Option Addr → TS
def wMix (K : PySem.W.Frag) (Wout : WX) (D : Ends) : List Cls3 → WX
  | [] => Wout
  | ⟨c, none, ts⟩ :: r => wOnly K c ts (wMix K Wout D r) D
  | ⟨c, some i, ts⟩ :: r => wAs K c i ts (wMix K Wout D r) D
inductive HdsM (X : Cx) : List ExceptHandler → List Cls3 → Prop
  | nil : HdsM X [] []
  | bare {x : Str} {c : Value} {ts : Addr → Value → Option Addr → TS} {b₀ : Stmt} {suite : List Stmt} {np pos' : Pos} {hds : List ExceptHandler} {l : List Cls3} (hc : Names X x c)
      (hsu : ∀ (a : Addr) (oe : Obj) (cls : Value) (d : Option Addr) (pn : List (Addr × Obj)), Zc cls d oe → (∃ vs, oe.data = .fields vs) → PSs (X.suite a ((a, oe) :: pn)) (b₀ :: suite) (ts a cls d)) (r : HdsM X hds l) :
      HdsM X (.ExceptHandler (some (.Name x np)) none (b₀ :: suite) pos' :: hds) (⟨c, none, ts⟩ :: l)
  | named {x n : Str} {i : Nat} {c : Value} {ts : Addr → Value → Option Addr → TS} {b₀ : Stmt} {suite : List Stmt} {np pos' : Pos} {hds : List ExceptHandler} {l : List Cls3} (hi : X.N[i]? = some n) (hln : X.env.kindOf n = some .local) (hc : Names X x c)
      (hsu : ∀ (a : Addr) (oe : Obj) (cls : Value) (d : Option Addr) (pn : List (Addr × Obj)), Zc cls d oe → (∃ vs, oe.data = .fields vs) → PSs (X.suite a ((a, oe) :: pn)) (b₀ :: suite) (ts a cls d)) (r : HdsM X hds l) :
      HdsM X (.ExceptHandler (some (.Name x np)) (some n) (b₀ :: suite) pos' :: hds) (⟨c, some i, ts⟩ :: l)
section
variable {X : Cx} {body : List Stmt} {h₀ : ExceptHandler} {hds : List ExceptHandler} {l : List Cls3} {pos : Pos} {tb : WX → TS} {Wout : WX}
theorem ps_try_mix (hs : X.stack = X.env :: X.outer) (hf : X.env.frame = some X.env.locals) (hN : X.N.Nodup) (tk : Takes X Wout)
    (hb : ∀ (W : WX) (pn : List (Addr × Obj)) (xe : Value → Shared → Prop), Takes (X.tr pn xe) W → PassesOwn (model X.prog X.w) X.A X.env xe → PSs (X.tr pn xe) body (tb W))
    (hh : HdsM X (h₀ :: hds) l) : PS X (.Try body (h₀ :: hds) [] [] pos) (fun D σ H => tb (wMix X.K Wout D l) D σ H) := by
  refine ⟨fun pins s σ H D I h => ?_⟩
  have ok := I.ok
  have hfr : X.A.frames = some (X.env :: X.outer) := by rw [ok.frames, hs]
  refine wpAny_Try_except ?_
  refine wpAny_mono ((hb (wMix X.K Wout D l) (X.pn ++ pins) (fun e s₁ => wpAny (model X.prog X.w) X.A (noteFrame e X.env) (fun _ s₂ => wpAny (model X.prog X.w) X.A (setFlight e none) (fun _ s₃ =>
    wpAny (model X.prog X.w) X.A (handleBy e X.env (h₀ :: hds)) (SP X pins D) X.xe s₃) X.xe s₂) X.xe s₁) (fun u s' xx => ?_) PassesOwn.looking).run [] s σ H D (I.toTry _) h) (fun f s1 hsp => ?_) (fun e s1 he => he)
  · obtain ⟨a, B, sI, pins', σ', H', cls, d, rfl, J', nb, up, sky, na, os, ag, w⟩ := xx
    have J : Inv X pins σ' H' sI := J'.ofTry ok
    have sky1 : Sky B (X.env :: X.outer) a (Zc cls d) X.env.locals s'.heap := by rw [← hs]; exact sky
    show wpAny (model X.prog X.w) X.A (noteFrame (.ref a) X.env) _ _ _
    refine Sky.land Zc.steady hfr hf sky1 fun h3 fl3 up3 => ?_
    have J3 : Inv X pins σ' H' { s' with heap := h3 } := J.landed nb fl3.1 (up.trans up3) os ag
    obtain ⟨oe3, vs3, he3, hz3, hd3⟩ := fl3.there
    have nfr : a ∉ frs (X.env :: X.outer) := fun hm => by
      obtain ⟨_, o, e, hnf⟩ := fl3.2.2.1.mem hm
      rw [he3] at e; cases e
      exact hnf _ hd3
    have nL : a ≠ X.env.locals := fun z => nfr (List.mem_filterMap.mpr ⟨X.env, List.mem_cons_self, by rw [hf, z]⟩)
    have nF : a ∉ X.fs := fun hm => by
      obtain ⟨e, he, q⟩ := List.mem_filterMap.mp hm
      exact nfr (List.mem_filterMap.mpr ⟨e, List.mem_cons_of_mem _ he, q⟩)
    have S3 := J3.suite he3 hd3 na nL nF
    have LT : PySem.W.Looks (model X.prog X.w) h3 (typeOf (.ref a)) cls := fun A Q E s k q => wpAny_typeOf_ref (k _ _ he3) (by rw [hz3.1]; exact q)
    have test : ∀ {x : Str} {c : Value} {np : Pos} (hc : Names X x c) {Q E : Value → Shared → Prop}, Q c { s' with heap := h3 } → wpAny (model X.prog X.w) (X.A.mark (some (.ref a))) (eval (.Name x np) X.env) Q E { s' with heap := h3 } := fun {x c np} hc {Q E} q => by
      obtain ⟨hg, hdbg, hm | ⟨hm, hv, hnn⟩⟩ := hc
      · exact ld_glob (X := X.suite a ((a, oe3) :: (X.pn ++ pins))) S3 hg hm q hdbg
      · exact ld_blt (X := X.suite a ((a, oe3) :: (X.pn ++ pins))) S3 hg hm hv q hnn hdbg
    have go : ∀ {hds' : List ExceptHandler} {l' : List Cls3}, HdsM X hds' l' → wMix X.K Wout D l' cls d σ' H' → wpAny (model X.prog X.w) X.A (handleBy (.ref a) X.env hds') (SP X pins D) X.xe { s' with heap := h3 } := by
      intro hds' l' hk
      induction hk with
      | nil =>
        intro w
        refine wpAny_handleBy_nil ?_
        obtain ⟨k1, k2, k3, oe, vs, T, oT, t', he, hz, hd, h1, hr⟩ := id fl3
        unfold PySem.passOn
        refine wpAny_bind (wpAny_field he hd h1 ?_)
        rw [if_neg (show ¬ ((Value.ref T == Value.none) = true) from by simp)]
        have fin : wpAny (model X.prog X.w) X.A (setFlight (.ref a) X.env.frame) (fun _ s4 => wpAny (model X.prog X.w) X.A (throw (.ref a) : Sem Flow) (SP X pins D) X.xe s4) X.xe { s' with heap := h3 } := by
          rw [hf]
          exact HandSPX.setFlight_upZ fl3 fun h4 hh4 up4 => wpAny_throw (tk _ _ ⟨a, B, sI, pins, σ', H', cls, d, rfl, J, nb, (up.trans up3).trans up4, .inr (.inr (by rw [hs]; exact hh4)), na, os, ag, w⟩)
        first
          | exact wpAny_bind (wpAny_pure (wpAny_bind fin))
          | exact wpAny_bind fin
      | @bare x c ts b₀ suite np pos' hds2 l2 hc hsu r ih =>
        rintro ⟨b, hb1, hyes, hno⟩
        refine wpAny_handleBy_cons (codeAny_handlers_test ?_) (by intro q; cases q)
        refine test hc ((PySem.W.exm_one (M := model X.prog X.w) J3.kIn LT hb1).here ?_)
        cases b with
        | false => exact ih (hno rfl)
        | true =>
          refine codeAny_handlers_suite ?_
          refine HandSPX.lands_againZ fl3 fun h4 fl4 up4 => ?_
          have J4 : Inv X pins σ' H' { s' with heap := h4 } := J.landed nb fl4.1 ((up.trans up3).trans up4) os ag
          obtain ⟨oe4, vs4, he4, hz4, hd4⟩ := fl4.there
          refine wpAny_mono ((hsu a oe4 cls d (X.pn ++ pins) hz4 ⟨_, hd4⟩).run [] _ _ H' _ (J4.suite he4 hd4 na nL nF) (hyes rfl a na)) (fun f s6 hsp => ?_) (fun _ _ z => False.elim z)
          cases f with
          | ret u => obtain ⟨v6, σ6, H6, S6, r6, q6⟩ := hsp; exact ⟨_, _, _, S6.unsuite ok, r6, q6⟩
          | _ => obtain ⟨σ6, H6, S6, q6⟩ := hsp; exact ⟨_, _, S6.unsuite ok, q6⟩
      | @named x n i c ts b₀ suite np pos' hds2 l2 hi hln hc hsu r ih =>
        rintro ⟨b, hb1, hyes, hno⟩
        refine wpAny_handleBy_cons (codeAny_handlers_test ?_) (by intro q; cases q)
        refine test hc ((PySem.W.exm_one (M := model X.prog X.w) J3.kIn LT hb1).here ?_)
        cases b with
        | false => exact ih (hno rfl)
        | true =>
          have hloc : Loc X.env.scope n := .inl hln
          refine codeAny_handlers_suite_as ?_
          refine HandSPX.lands_againZ fl3 fun h4 fl4 up4 => ?_
          have J4 : Inv X pins σ' H' { s' with heap := h4 } := J.landed nb fl4.1 ((up.trans up3).trans up4) os ag
          obtain ⟨oe4, vs4, he4, hz4, hd4⟩ := fl4.there
          refine store_ok (X := X.suite a ((a, oe4) :: (X.pn ++ pins))) (v := .ref a) (J4.suite he4 hd4 na nL nF) hN hi hloc rfl (fun s5 S5 => ?_) (.inr hln)
          refine wpAny_mono ((hsu a oe4 cls d (X.pn ++ pins) hz4 ⟨_, hd4⟩).run [] s5 _ H' _ S5 (hyes rfl a na)) (fun f s6 hsp => ?_) (fun _ _ z => False.elim z)
          have last : ∀ {σ6 : L2.St} {H6 : Hp} {Q : Shared → Prop}, Inv (X.suite a ((a, oe4) :: (X.pn ++ pins))) [] σ6 H6 s6 → (∀ s7, Inv X pins (σ6.set i none) H6 s7 → Q s7) →
              wpAny (model X.prog X.w) X.A (do bindName X.env n .none; unbindBehindTheSuite X.env n pos') (fun _ s7 => Q s7) X.xe s6 := fun {σ6 H6 Q} S6 hq => gone_ok (S6.unsuite ok) hN hi hln hq
          cases f with
          | ret u => obtain ⟨v6, σ6, H6, S6, r6, q6⟩ := hsp; exact last S6 fun s7 J7 => ⟨_, _, _, J7, r6, q6⟩
          | next => obtain ⟨σ6, H6, S6, q6⟩ := hsp; exact last S6 fun s7 J7 => ⟨_, _, J7, q6⟩
          | brk => obtain ⟨σ6, H6, S6, q6⟩ := hsp; exact last S6 fun s7 J7 => ⟨_, _, J7, q6⟩
          | cont => obtain ⟨σ6, H6, S6, q6⟩ := hsp; exact last S6 fun s7 J7 => ⟨_, _, J7, q6⟩
    exact go hh w
  · cases f with
    | next => obtain ⟨σ', H', J', q⟩ := hsp; exact wpAny_execs_nil ⟨σ', H', J'.ofTry ok, q⟩
    | ret u => obtain ⟨v, σ', H', J', r, q⟩ := hsp; exact ⟨v, σ', H', J'.ofTry ok, r, q⟩
    | brk => obtain ⟨σ', H', J', q⟩ := hsp; exact ⟨σ', H', J'.ofTry ok, q⟩
    | cont => obtain ⟨σ', H', J', q⟩ := hsp; exact ⟨σ', H', J'.ofTry ok, q⟩
end
/-- whether an error of X's class is named by `except C` -/
theorem exm_at {K : PySem.W.Frag} {X C : Addr} {b : Bool} (xec : PySem.W.subIn K (.ref C) (.type "BaseException") = some true) (xic : PySem.W.isClsIn K C = true) (xty : PySem.W.typeIn K (.ref C) = some (.type "type")) (xsc : PySem.W.subIn K (.ref X) (.ref C) = some b) :
    PySem.W.exmOne K (.ref X) (.ref C) = some b := by
  have xic2 : (PySem.W.clsIn K C).isSome = true := xic
  unfold PySem.W.exmOne PySem.W.kitCls
  simp [xec, xic2, xty, xsc]
end El

set_option Elab.async false
set_option linter.all false
set_option maxRecDepth 100000
set_option maxHeartbeats 4000000
namespace El
open PySem PySem.Spec L2
/-! ### what k85's _law_told tells -/
abbrev sNK : Str := "not kept"
abbrev sNE : Str := "no ends"
def rTld : Rp Tld := fun F v x => match x with
  | .got o => rOpt (rPr rNat rNat) F v o
  | .not s => ∃ a, v = .ref a ∧ F a = some (.tup [.str sNK, .int (s : Int)])
  | .ends => v = .str sNE
instance : Mn rTld := ⟨fun {H H' v x} e h => by
  cases x with
  | got o => exact Mn.mono (R := rOpt (rPr rNat rNat)) e h
  | not s => obtain ⟨a, h1, h2⟩ := h; exact ⟨a, h1, e _ _ h2⟩
  | ends => exact h⟩
def tldData : Tld → PyData
  | .got o => dO.data o
  | .not s => .tuple [.str sNK, .int (s : Int)]
  | .ends => .str sNE
theorem tld_got_not (o : Option (Nat × Nat)) (s : Nat) : PyData.eqv (dO.data o) (.tuple [.str sNK, .int (s : Int)]) = false := by
  cases o with
  | none => rfl
  | some p => rfl
theorem tld_not_got (o : Option (Nat × Nat)) (s : Nat) : PyData.eqv (.tuple [.str sNK, .int (s : Int)]) (dO.data o) = false := by
  cases o with
  | none => rfl
  | some p => rfl
theorem tld_got_ends (o : Option (Nat × Nat)) : PyData.eqv (dO.data o) (.str sNE) = false := by
  cases o with
  | none => rfl
  | some p => rfl
theorem tld_ends_got (o : Option (Nat × Nat)) : PyData.eqv (.str sNE) (dO.data o) = false := by
  cases o with
  | none => rfl
  | some p => rfl
instance : Dt rTld where
  data := tldData
  rep := fun {K F H v x} e h => by
    cases x with
    | got o => exact dO.rep e h
    | not s => obtain ⟨a, h1, h2⟩ := h; subst h1; exact .tup (SqT.of (e _ _ h2)) (.cons (.str _) (.cons (.int _) .nil))
    | ends => cases (show v = _ from h); exact .str _
  lay := fun x => by
    cases x with
    | got o => exact dO.lay o
    | not s =>
      show (PyData.strOk sNK && (true && true)) = true
      rw [show PyData.strOk sNK = true by decide +kernel]
      rfl
    | ends => show PyData.strOk sNE = true; decide +kernel
  dep := 10
  depth := fun x => by
    cases x with
    | got o =>
      have h1 := dO.depth o
      have h2 : dO.dep ≤ 5 := by decide
      show PyData.depth (dO.data o) ≤ 10
      omega
    | not s => show max 0 (max 0 0) + 1 ≤ 10; decide
    | ends => show 0 ≤ 10; decide
  eqv := fun x y => by
    cases x with
    | got o =>
      cases y with
      | got o' => exact (dO.eqv o o').trans ⟨fun h => by rw [h], fun h => Tld.got.inj h⟩
      | not s => rw [show PyData.eqv (tldData (.got o)) (tldData (.not s)) = false from tld_got_not o s]; exact ⟨(fun h => nomatch h), (fun h => nomatch h)⟩
      | ends => rw [show PyData.eqv (tldData (.got o)) (tldData .ends) = false from tld_got_ends o]; exact ⟨(fun h => nomatch h), (fun h => nomatch h)⟩
    | not s =>
      cases y with
      | got o => rw [show PyData.eqv (tldData (.not s)) (tldData (.got o)) = false from tld_not_got o s]; exact ⟨(fun h => nomatch h), (fun h => nomatch h)⟩
      | not s' =>
        show ((sNK == sNK) && (((s : Int) == (s' : Int)) && true)) = true ↔ _
        rw [beq_self_eq_true, Bool.true_and, Bool.and_true, beq_iff_eq]
        exact ⟨fun h => by rw [Int.ofNat.inj h], fun h => by rw [Tld.not.inj h]⟩
      | ends => exact ⟨(fun h => nomatch h), (fun h => nomatch h)⟩
    | ends =>
      cases y with
      | got o => rw [show PyData.eqv (tldData .ends) (tldData (.got o)) = false from tld_ends_got o]; exact ⟨(fun h => nomatch h), (fun h => nomatch h)⟩
      | not s => exact ⟨(fun h => nomatch h), (fun h => nomatch h)⟩
      | ends => exact ⟨fun _ => rfl, fun _ => beq_self_eq_true sNE⟩
/-! ### promises of what isn't told exactly, without draws -/
def SpR2 {α β γ : Type} (R : Rp α) (S : Rp β) (Pre : α → β → Prop) (T : Rp γ) (P : α → β → γ → Prop) : Sp := fun vs H Q _ => ∃ F v w x y, vs = [v, w] ∧ Ex F H ∧ R F v x ∧ S F w y ∧ Pre x y ∧ ∀ r z F' H', Gr M0 F H F' H' → P x y z → T F' r z → Q r H'
instance {α β γ : Type} {R : Rp α} {S : Rp β} {Pre : α → β → Prop} {T : Rp γ} {P : α → β → γ → Prop} : SpLen (SpR2 R S Pre T P) 2 := ⟨fun ⟨_, _, _, _, _, h, _⟩ => by rw [h]; rfl⟩
section
variable {K : PySem.W.Frag} {σ : St} {F H F' H' : Hp} {ta tb tc te : TE} {α β γ : Type} {R : Rp α} {S : Rp β} {T : Rp γ} {x : α} {y : β} {D : Ends} {E : XK} {a : Addr} {c1 c2 N : Nat} {ns : List Nat} {k : Nat}
theorem es_callR2 {Pre : α → β → Prop} {P : α → β → γ → Prop} (ha : ∀ F1 H1, Gr (M1 a) F H F1 H1 → F1 a = none → Ev R ta σ F1 H1 x) (hb : ∀ F1 H1, Gr (M1 a) F H F1 H1 → F1 a = none → Ev S tb σ F1 H1 y) (p : Pre x y) (m : Mn R := by infer_instance) :
    EvS a 0 T (tCall (SpR2 R S Pre T P) [] E (tCons ta (tCons tb tNil))) σ F H (P x y) := fun F1 H1 N g fa s Q q => by
  obtain ⟨o, ho⟩ := s.someO
  refine ha F1 H1 g fa F1 H1 (.refl g.fh) _ fun v F2 H2 g2 r => hb F2 H2 (g.trans g2.up) (g2.nn ho fa) F2 H2 (.refl g2.fh) _ fun w F3 H3 g3 r3 => ?_
  refine ⟨F3, v, w, x, y, rfl, g3.fh, m.mono g3.ff r, r3, p, fun r z F' H' g' pz rr => ?_⟩
  have G := g2.trans (g3.trans g')
  exact q r z F' H' G.up (G.nn ho fa) ((s.gr G).le (by omega)) pz rr
/-- l.index(k), where k is in l -/
theorem idx_nats : ∀ {ns : List Nat} {k : Nat}, k ∈ ns → ∃ z, (ns.map fun n : Nat => V.int (n : Int))[ns.idxOf k]? = some z ∧ eqV z (.int (k : Int)) = true ∧ ∀ (m : Nat) (z' : V), m < ns.idxOf k → (ns.map fun n : Nat => V.int (n : Int))[m]? = some z' → eqV z' (.int (k : Int)) = false
  | n :: ns, k, h => by
    by_cases e : n = k
    · subst e
      rw [List.idxOf_cons_self]
      exact ⟨.int (n : Int), rfl, by show decide ((n : Int) = (n : Int)) = true; exact decide_eq_true rfl, fun m z' hm => absurd hm (Nat.not_lt_zero m)⟩
    · have hk : k ∈ ns := (List.mem_cons.mp h).elim (fun q => absurd q.symm e) id
      obtain ⟨z, h1, h2, h3⟩ := idx_nats hk
      rw [show (n :: ns).idxOf k = ns.idxOf k + 1 by rw [List.idxOf_cons, beq_false_of_ne e]; rfl]
      refine ⟨z, h1, h2, fun m z' hm hz => ?_⟩
      cases m with
      | zero => cases hz; show decide ((n : Int) = (k : Int)) = false; exact decide_eq_false (by omega)
      | succ m => exact h3 m z' (by omega) hz
theorem ev_index (ha : Ev (rLst rNat) ta σ F H ns) (hk : Ev rNat tb σ F H k) (hm : k ∈ ns) : Ev rNat (tBM K "list" (rIndex K) ta (tCons tb tNil)) σ F H (ns.idxOf k) := fun F1 H1 g1 Q q =>
  ha F1 H1 g1 _ fun v F2 H2 g2 ⟨p, vs, e, hp, pr⟩ => by
    have ev := nats_eq pr
    subst ev
    subst e
    refine ⟨.inl ⟨rfl, _, SqL.of (g2.fh _ _ hp)⟩, hk F2 H2 (g1.trans g2) _ fun w F3 H3 g3 r3 => ?_⟩
    cases (show w = _ from r3)
    obtain ⟨z, h1, h2, h3⟩ := idx_nats hm
    exact ⟨p, _, _, _, z, rfl, rfl, SqL.of (g3.hx _ _ (g2.fh _ _ hp)), rfl, flat_nats ns, h1, h2, h3, q _ F3 H3 (g2.trans g3) rfl⟩
/-- a drawn comprehension, its list written at behind it -/
theorem x_lcSM {j B q : Nat} {vs : List Nat} {P1 : Int → Prop} {P2 : Nat → β → Prop} (h : EvS a c1 rInt ta σ F H P1) (hn : ∀ n, P1 n → 0 ≤ n ∧ n ≤ (B : Int)) (hB : B ≤ 1000000) (hw : ∀ v, wipe ((wipe σ vs).set j (some v)) vs = wipe σ vs)
    (he : ∀ i : Nat, i < B → ∀ F1 H1, Gr (M1 a) F H F1 H1 → F1 a = none → EvS a c2 S te ((wipe σ vs).set j (some (.int (i : Int)))) F1 H1 (P2 i)) (e : Ex F H) (fa : F a = none) (s : Src H a N) (hc : c1 + B * c2 ≤ N)
    (k : ∀ l us xs F' H', Gr (M1 a) F H F' H' → F' a = none → Src H' a (N - (c1 + B * c2)) → l ≠ a → H l = none → F' l = none → H' l = some (.lst us) → Paired (S F') us xs → (∃ n, P1 n ∧ (xs.length : Int) = n) → (∀ (i : Nat) x, xs[i]? = some x → P2 i x) → D.nx (σ.set q (some (.ref l))) H') (m' : Mn S := by infer_instance) :
    tAsg (tLc (iRng1 (tCons ta tNil)) (gName j) tYes te vs) (gName q) D σ H := by
  refine h F H (N - c1) (.refl e) fa (s.le (by omega)) _ fun v n F2 H2 g2 fa2 s2 p ea => ?_
  obtain ⟨n0, n1⟩ := hn n p
  refine ⟨n, by rw [show v = _ from ea], by omega, by omega, fun B' hD => ?_⟩
  obtain ⟨kk, hk⟩ : ∃ kk : Nat, n = (kk : Int) := ⟨n.toNat, by omega⟩
  subst hk
  rw [Int.toNat_natCast]
  have hne : B' ≠ a := fun z => by
    subst z
    exact s2.hn hD
  have hD0 : H B' = none := by
    cases q : H B' with
    | none => rfl
    | some o => exact absurd hD (g2.dm B' (by rw [q]; exact fun z => nomatch z))
  refine lc_range (lo := 0) (n := kk) (fun i H' => ∃ F' us l, Gr (M1 a) F2 H2 F' H' ∧ F' a = none ∧ Src H' a (N - c1 - i * c2) ∧ F' B' = none ∧ H' B' = some (.lst us) ∧ l.length = i ∧ Paired (S F') us l ∧ ∀ (t : Nat) x, l[t]? = some x → P2 t x)
    ⟨F2, [], [], .loc g2.fh hD, fa2, (by rw [Nat.zero_mul, Nat.sub_zero]; exact s2.ex (upd_ne hne.symm)), g2.fh.free hD, upd_same, rfl, .nil, fun t x hx => by simp at hx⟩ ?_ ?_
  · rintro i H' hi ⟨F', us, l, g, fa', s', fD, hD', hl, pu, hP⟩
    have e0 : (0 : Int) + (i : Int) = (i : Int) := Int.zero_add _
    rw [e0]
    refine ⟨hw _, ?_⟩
    have hb : (i + 1) * c2 = i * c2 + c2 := Nat.succ_mul ..
    have hb2 : (i + 1) * c2 ≤ B * c2 := Nat.mul_le_mul_right _ (by omega)
    refine he i (by omega) F' H' (g2.trans g) fa' F' H' (N - c1 - (i + 1) * c2) (.refl g.fh) fa' (s'.le (by omega)) _ fun u y F3 H3 g3 fa3 s3 py r3 => ?_
    have hD3 : H3 B' = some (.lst us) := g3.hh _ _ hne hD'
    have fD3 : F3 B' = none := g3.nw B' hne (by rw [hD']; exact fun z => nomatch z) fD
    refine ⟨us, hD3, ?_, F3, us ++ [u], l ++ [y], (g.trans g3).set' fD3 (.inl hD), fa3, s3.ex (upd_ne hne.symm), fD3, upd_same, by rw [List.length_append, hl]; rfl, (Paired.up g3.ff pu).snoc r3, ?_⟩
    · rw [pu.length, hl, sizeLine_eq]
      omega
    · intro t x hx
      by_cases ht : t < l.length
      · rw [List.getElem?_append_left ht] at hx
        exact hP t x hx
      · have ht2 : t < (l ++ [y]).length := (List.getElem?_eq_some_iff.mp hx).1
        rw [List.length_append] at ht2
        have e1 : t = l.length := by simp at ht2; omega
        subst e1
        rw [List.getElem?_append_right (Nat.le_refl _), Nat.sub_self] at hx
        cases hx
        rw [hl]
        exact py
  · rintro H' ⟨F', us, l, g, fa', s', fD, hD', hl, pu, hP⟩
    have hb2 : kk * c2 ≤ B * c2 := Nat.mul_le_mul_right _ (by omega)
    exact k B' us l _ _ (g2.trans g) fa' (s'.le (by omega)) hne hD0 fD hD' pu ⟨(kk : Int), p, by rw [hl]⟩ hP
end
end El

set_option Elab.async false
set_option linter.all false
set_option maxRecDepth 100000
set_option maxHeartbeats 4000000
namespace El
open PySem PySem.Spec L2
/-! ### what is above, looked through row by row -/
def outM (ps : List (Nat × Nat)) (x : Nat) : List Nat := (ps.filter fun p => decide (p.1 = x)).map (·.2)
theorem out_mem {ps : List (Nat × Nat)} {x y : Nat} : y ∈ outM ps x ↔ (x, y) ∈ ps := by
  unfold outM
  rw [List.mem_map]
  constructor
  · rintro ⟨⟨a, b⟩, h, rfl⟩
    obtain ⟨h1, h2⟩ := List.mem_filter.mp h
    have : a = x := of_decide_eq_true h2
    subst this
    exact h1
  · intro h
    exact ⟨(x, y), List.mem_filter.mpr ⟨h, decide_eq_true rfl⟩, rfl⟩
theorem out_len {ps : List (Nat × Nat)} {x : Nat} : (outM ps x).length ≤ ps.length := by
  unfold outM
  rw [List.length_map]
  exact List.length_filter_le _ _
def rowM (ps : List (Nat × Nat)) (x : Nat) : List Nat := sortN (uniq (outM ps x))
theorem row_mem {ps : List (Nat × Nat)} {x y : Nat} : y ∈ rowM ps x ↔ (x, y) ∈ ps := by
  unfold rowM
  rw [sort_mem, mem_uniq, out_mem]
theorem row_nd {ps : List (Nat × Nat)} {x : Nat} : (rowM ps x).Nodup := (sort_perm _).nodup_iff.mpr (nodup_uniq _)
structure RowI (ps : List (Nat × Nat)) (x c : Nat) (row : List Nat) : Prop where
  nd : row.Nodup
  snd : ∀ y ∈ row, Blw ps x y
  fst : ∀ y, (x, y) ∈ ps → y ∈ row
  cl : ∀ (i : Nat) y, i < c → row[i]? = some y → ∀ z, (y, z) ∈ ps → z ∈ row
  le : c ≤ row.length
theorem RowI.start {ps : List (Nat × Nat)} {x : Nat} : RowI ps x 0 (rowM ps x) :=
  ⟨row_nd, fun y hy => .one (row_mem.mp hy), fun y hy => row_mem.mpr hy, fun i y hi => absurd hi (Nat.not_lt_zero i), Nat.zero_le _⟩
theorem RowI.step {ps : List (Nat × Nat)} {x c y : Nat} {row : List Nat} (h : RowI ps x c row) (hy : row[c]? = some y) : RowI ps x (c + 1) (row ++ (rowM ps y).filter fun z => !decide (z ∈ row)) := by
  have hyr : y ∈ row := List.mem_of_getElem? hy
  refine ⟨List.nodup_append.mpr ⟨h.nd, row_nd.filter _, fun a ha b hb e => ?_⟩, fun z hz => ?_, fun z hz => List.mem_append_left _ (h.fst z hz), fun i z hi hz u hu => ?_, ?_⟩
  · subst e
    have := (List.mem_filter.mp hb).2
    rw [decide_eq_true ha] at this
    cases this
  · rcases List.mem_append.mp hz with hz | hz
    · exact h.snd z hz
    · exact (h.snd y hyr).trans (.one (row_mem.mp (List.mem_filter.mp hz).1))
  · have hlt : i < row.length := Nat.lt_of_lt_of_le hi (List.getElem?_eq_some_iff.mp hy).1
    rw [List.getElem?_append_left hlt] at hz
    by_cases e : i = c
    · subst e
      rw [hy] at hz
      cases hz
      by_cases q : u ∈ row
      · exact List.mem_append_left _ q
      · exact List.mem_append_right _ (List.mem_filter.mpr ⟨row_mem.mpr hu, by rw [decide_eq_false q]; rfl⟩)
    · exact List.mem_append_left _ (h.cl i z (by omega) hz u hu)
  · have hlt := (List.getElem?_eq_some_iff.mp hy).1
    rw [List.length_append]
    omega
theorem RowI.done {ps : List (Nat × Nat)} {x : Nat} {row : List Nat} (h : RowI ps x row.length row) (y : Nat) : y ∈ row ↔ Blw ps x y := by
  refine ⟨h.snd y, fun hb => ?_⟩
  have cl : ∀ a ∈ row, ∀ z, (a, z) ∈ ps → z ∈ row := fun a ha z hz => by
    obtain ⟨i, hi⟩ := List.mem_iff_getElem?.mp ha
    exact h.cl i a (List.getElem?_eq_some_iff.mp hi).1 hi z hz
  have go : ∀ {a z : Nat}, Blw ps a z → a ∈ row → z ∈ row := fun {a z} q => by
    induction q with
    | one q => exact fun ha => cl _ ha _ q
    | more q _ ih => exact fun ha => ih (cl _ ha _ q)
  cases hb with
  | one q => exact h.fst _ q
  | more q k => exact go k (h.fst _ q)
theorem RowI.len {ps : List (Nat × Nat)} {x c n : Nat} {row : List Nat} (h : RowI ps x c row) (hp : ∀ p ∈ ps, p.1 < n ∧ p.2 < n) : row.length ≤ n := nodup_lt h.nd fun y hy => ((h.snd y hy).lt hp).2
/-- rows of what is above -/
def AbvR (n : Nat) (ps : List (Nat × Nat)) (hs : List (List Nat)) : Prop := hs.length = n ∧ ∀ x, x < n → (hs.getD x []).Nodup ∧ ∀ y, y ∈ hs.getD x [] ↔ Blw ps x y
/-! ### rankings -/
def RkLt (r : List Nat) (a b : Nat) : Prop := ∃ i j : Nat, i < j ∧ r[i]? = some a ∧ r[j]? = some b
theorem rk_idx {r : List Nat} (nd : r.Nodup) {a b : Nat} (h : RkLt r a b) : r.idxOf a < r.idxOf b := by
  obtain ⟨i, j, hij, hi, hj⟩ := h
  obtain ⟨li, ei⟩ := List.getElem?_eq_some_iff.mp hi
  obtain ⟨lj, ej⟩ := List.getElem?_eq_some_iff.mp hj
  rw [← ei, ← ej, nd.idxOf_getElem i li, nd.idxOf_getElem j lj]
  exact hij
theorem rk_mem {r : List Nat} {a b : Nat} (h : RkLt r a b) : a ∈ r ∧ b ∈ r := by
  obtain ⟨i, j, _, hi, hj⟩ := h
  exact ⟨List.mem_of_getElem? hi, List.mem_of_getElem? hj⟩
theorem perm_rng {n : Nat} {r : List Nat} (h : r.Perm (List.range n)) : r.Nodup ∧ r.length = n ∧ ∀ x, x ∈ r ↔ x < n :=
  ⟨h.nodup_iff.mpr List.nodup_range, by rw [h.length_eq, List.length_range], fun x => by rw [h.mem_iff, List.mem_range]⟩
/-- the inner ones -/
theorem cut_inner {r : List Nat} {i x : Nat} (h : (cut r (some 1) (some (-1)))[i]? = some x) : r[i + 1]? = some x ∧ i + 2 < r.length := by
  unfold cut at h
  have e1 : HT.sIx r.length 0 (some 1) = min 1 r.length := HT.sIx_nat r.length 0 1
  have e2 : HT.sIx r.length r.length (some (-1)) = r.length - 1 := by
    show (if (-1 : Int) < 0 then ((-1 : Int) + (r.length : Int)).toNat else min (-1 : Int).toNat r.length) = _
    rw [if_pos (by decide)]
    omega
  rw [e1, e2] at h
  have hl := (List.getElem?_eq_some_iff.mp h).1
  rw [List.length_take, List.length_drop] at hl
  rw [List.getElem?_take_of_lt (by omega), List.getElem?_drop] at h
  have : min 1 r.length = 1 := by omega
  rw [this] at h hl
  rw [Nat.add_comm]
  exact ⟨h, by omega⟩
theorem cut_inner_len {r : List Nat} : (cut r (some 1) (some (-1))).length ≤ r.length := by
  unfold cut
  rw [List.length_take, List.length_drop]
  omega
/-! ### promises with a source and three more -/
def SpS3 (c : Nat) {α β γ δ : Type} (R : Rp α) (R2 : Rp β) (R3 : Rp γ) (Pre : α → β → γ → Prop) (S : Rp δ) (P : α → β → γ → δ → Prop) : Sp := fun vs H Q _ => ∃ F a N v u o x y z, vs = [.ref a, v, u, o] ∧ Ex F H ∧ F a = none ∧ Src H a (N + c) ∧ R F v x ∧ R2 F u y ∧ R3 F o z ∧ Pre x y z ∧
  ∀ w r F' H', Gr (M1 a) F H F' H' → F' a = none → Src H' a N → P x y z r → S F' w r → Q w H'
instance {c : Nat} {α β γ δ : Type} {R : Rp α} {R2 : Rp β} {R3 : Rp γ} {Pre : α → β → γ → Prop} {S : Rp δ} {P : α → β → γ → δ → Prop} : SpLen (SpS3 c R R2 R3 Pre S P) 4 := ⟨fun ⟨_, _, _, _, _, _, _, _, _, h, _⟩ => by rw [h]; rfl⟩
section
variable {K : PySem.W.Frag} {σ : St} {F H F' H' : Hp} {ta tb tc te : TE} {α β γ δ : Type} {R : Rp α} {R2 : Rp β} {R3 : Rp γ} {S : Rp δ} {x : α} {y : β} {z : γ} {E : XK} {a : Addr} {c N : Nat}
theorem es_callP3 {i : Nat} {Pre : α → β → γ → Prop} {P : α → β → γ → δ → Prop} (hv : σ[i]? = some (some (.ref a))) (ha : ∀ F1 H1, Gr (M1 a) F H F1 H1 → F1 a = none → Ev R ta σ F1 H1 x) (hb : ∀ F1 H1, Gr (M1 a) F H F1 H1 → F1 a = none → Ev R2 tb σ F1 H1 y) (hc : ∀ F1 H1, Gr (M1 a) F H F1 H1 → F1 a = none → Ev R3 tc σ F1 H1 z) (hp : Pre x y z) (m : Mn R := by infer_instance) (m2 : Mn R2 := by infer_instance) :
    EvS a c S (tCall (SpS3 c R R2 R3 Pre S P) [] E (tCons (tVar i) (tCons ta (tCons tb (tCons tc tNil))))) σ F H (P x y z) := fun F1 H1 N g fa s Q q => by
  obtain ⟨o, ho⟩ := s.someO
  refine ⟨.ref a, hv, ha F1 H1 g fa F1 H1 (.refl g.fh) _ fun v F2 H2 g2 r => hb F2 H2 (g.trans g2.up) (g2.nn ho fa) F2 H2 (.refl g2.fh) _ fun u F3 H3 g3 r3 => ?_⟩
  have G3 := g2.trans g3
  refine hc F3 H3 (g.trans G3.up) (G3.nn ho fa) F3 H3 (.refl g3.fh) _ fun w F4 H4 g4 r4 => ?_
  have G := G3.trans g4
  exact ⟨F4, a, N, v, u, w, x, y, z, rfl, g4.fh, G.nn ho fa, s.gr G, m.mono (g3.ff.trans g4.ff) r, m2.mono g4.ff r3, r4, hp, fun w r F' H' g' fa' s' p' r' => q w r F' H' (G.up.trans g') fa' s' p' r'⟩
end
end El

set_option Elab.async false
set_option linter.all false
set_option maxRecDepth 100000
set_option maxHeartbeats 4000000
namespace El
open PySem PySem.Spec L2
theorem atI_last {α : Type} {xs : List α} {x : α} (h : xs[xs.length - 1]? = some x) : atI xs (-1) = some x := by
  have hl := (List.getElem?_eq_some_iff.mp h).1
  unfold atI ixN
  rw [if_neg (by decide), if_pos (by omega)]
  rw [show ((-1 : Int) + (xs.length : Int)).toNat = xs.length - 1 by omega]
  exact h
theorem erase_map {α β : Type} (f : α → β) : ∀ (l : List α) (d : Nat), (l.map f).eraseIdx d = (l.eraseIdx d).map f
  | [], _ => rfl
  | _ :: _, 0 => rfl
  | a :: l, d + 1 => by
    show f a :: (l.map f).eraseIdx d = f a :: (l.eraseIdx d).map f
    rw [erase_map f l d]
section
variable {K : PySem.W.Frag} {σ : St} {F H F' H' : Hp} {ta tb tc te : TE} {α β γ δ : Type} {R : Rp α} {S : Rp β} {x : α} {y : β} {D : Ends} {a : Addr} {c N : Nat}
/-- list(range(n)), written at behind it -/
theorem x_lstRgM {n i : Nat} (e : Ex F H) (h : Ev rInt ta σ F H (n : Int)) (hn : n ≤ 1000000) (k : ∀ l F' H', Gr M0 F H F' H' → H' l = none → D.nx (σ.set i (some (.ref l))) (upd H' l (.lst ((List.range n).map fun n : Nat => V.int (n : Int))))) : tAsg (tLstRg (tRg1 ta)) (gName i) D σ H :=
  h F H (.refl e) _ fun v F2 H2 g2 e => ⟨n, e, .of_le (by omega) (by omega) (by omega) (by omega), fun B hB => by
    have := k B F2 H2 g2 hB
    rw [← nats_eq (rgV_paired (H := F2) n)] at this
    exact this⟩
/-- a branch, and what stands behind it, shown once -/
theorem x_ifH {tt : TT} {ts tu : TS} {b : Bool} (J : St → Hp → Prop) (hJ : ∀ σ H, J σ H → D.nx σ H) (e : Ex F H) (h : EvT tt σ F H b) (k1 : (∀ σ H, J σ H → D.nx σ H) → b = true → ∀ F' H', Gr M0 F H F' H' → ts D σ H') (k2 : (∀ σ H, J σ H → D.nx σ H) → b = false → ∀ F' H', Gr M0 F H F' H' → tu D σ H') : tIfS tt ts tu D σ H :=
  x_if e h (k1 hJ) (k2 hJ)
/-- tuple(l) of a list that is written at -/
theorem ev_tupM {l : Addr} {ns : List Nat} (ha : Ev rRef ta σ F H l) (hl : H l = some (.lst (ns.map fun n : Nat => V.int (n : Int)))) : Ev (rTup rNat) (tCB (rTupS K) (tCons ta tNil)) σ F H ns := fun F1 H1 g1 Q q =>
  ha F1 H1 g1 _ fun v F2 H2 g2 r => ⟨l, _, by rw [show v = _ from r], .inl ⟨SqL.of (g2.hx _ _ (g1.hx _ _ hl)), fun B hB => q _ _ _ (g2.trans (.new g2.fh hB)) ⟨B, _, rfl, upd_same, nats_P _ _⟩⟩⟩
end
end El

set_option Elab.async false
set_option linter.all false
set_option maxRecDepth 100000
set_option maxHeartbeats 4000000
namespace El
open PySem PySem.Spec L2
section
variable {K : PySem.W.Frag} {σ : St} {F H F' H' : Hp} {ta tb tc te tl : TE} {α β γ : Type} {R : Rp α} {S : Rp β} {U : Rp γ} {D : Ends} {a : Addr} {c N : Nat}
theorem es_toNat {P : Int → Prop} (h : EvS a c rInt te σ F H P) (hp : ∀ z, P z → 0 ≤ z) : EvS a c rNat te σ F H (fun n => P (n : Int)) := fun F1 H1 N g fa s Q q =>
  h F1 H1 N g fa s _ fun v z F2 H2 g2 fa2 s2 p r => by
    obtain ⟨n, rfl⟩ : ∃ n : Nat, z = (n : Int) := ⟨z.toNat, by have := hp z p; omega⟩
    exact q v n F2 H2 g2 fa2 s2 p r
theorem ev_lcP (f : α × β → γ) {ps : List (α × β)} {n j : Nat} {vs : List Nat} (h : Ev (rLst (rPr R S)) tl σ F H ps) (hz : ps.length ≤ 1000000) (hw : ∀ v w, wipe (((wipe σ vs).set n (some v)).set j (some w)) vs = wipe σ vs)
    (he : ∀ (i : Nat) x v w F1 H1, ps[i]? = some x → Gr M0 F H F1 H1 → R F1 v x.1 → S F1 w x.2 → Ev U te (((wipe σ vs).set n (some v)).set j (some w)) F1 H1 (f x)) (m : Mn R := by infer_instance) (m2 : Mn S := by infer_instance) (m' : Mn U := by infer_instance) :
    Ev (rLst U) (tLc (iList K tl) (gTup K 2 (gCons (gName n) (gCons (gName j) gNil))) tYes te vs) σ F H (ps.map f) :=
  Ev.is (ev_lcPF (R := R) (S := S) (U := U) (fun _ => true) f h hz hw (fun _ _ _ _ _ _ _ _ _ _ => et_yes) (fun i x v w F1 H1 hx _ g r1 r2 => he i x v w F1 H1 hx g r1 r2)) (by rw [List.filter_eq_self.mpr fun _ _ => rfl])
theorem ev_p3 {te : TE} {R : Rp α} {p : α × α × α} (h : Ev (r3 R R R) te σ F H p) : Ev (rTup R) te σ F H [p.1, p.2.1, p.2.2] := h.as fun F v ⟨a, x, y, z, e, h1, r1, r2, r3⟩ => ⟨a, [x, y, z], e, h1, .cons r1 (.cons r2 (.cons r3 .nil))⟩
end
/-! ### orders by rankings -/
theorem OrdR.congr {n : Nat} {hs : List (List Nat)} {B B' : Nat → Nat → Prop} (h : ∀ x y, B x y ↔ B' x y) (o : OrdR n hs B) : OrdR n hs B' := by
  have : B = B' := funext fun x => funext fun y => propext (h x y)
  rw [← this]
  exact o
theorem good_of {n : Nat} {ps : List (Nat × Nat)} (h1 : 1 ≤ n) (h2 : n ≤ 32) (hl : ps.length ≤ 100) (hp : ∀ p ∈ ps, p.1 < n ∧ p.2 < n) (hi : ∀ x, ¬ Blw ps x x) : GoodO n ps :=
  ⟨h1, h2, hl, fun p h => ⟨(hp p h).1, (hp p h).2, fun e => hi p.1 (.one (by rw [show (p.1, p.1) = p from Prod.ext rfl e]; exact h))⟩, fun p hpn hm => hi p (((above_rel hp hi).mem p hpn p).mp hm)⟩
theorem goodK_of {t : Tn} {hs : List (List Nat)} {B : Nat → Nat → Prop} (o : OrdR t.many hs B) : GoodK t hs :=
  ⟨o.len, fun x hx y hy => o.lt x hx y ((o.mem x hx y).mp hy), fun x hx => Nat.lt_of_le_of_lt (Nat.le_trans (o.row_len hx) t.h1) (by decide)⟩
def wholeM (n : Nat) (hs : List (List Nat)) : List (Nat × Nat) := ((List.range n).map fun x => (hs.getD x []).map fun y => (x, y)).flatten
theorem whole_succ {n : Nat} {hs : List (List Nat)} : wholeM (n + 1) hs = wholeM n hs ++ (hs.getD n []).map fun y => (n, y) := flat_succ (fun x => (hs.getD x []).map fun y => (x, y)) n
theorem whole_mem {n x y : Nat} {hs : List (List Nat)} : (x, y) ∈ wholeM n hs ↔ x < n ∧ y ∈ hs.getD x [] := by
  unfold wholeM
  rw [List.mem_flatten]
  constructor
  · rintro ⟨l, hl, h⟩
    obtain ⟨z, hz, rfl⟩ := List.mem_map.mp hl
    obtain ⟨u, hu, e⟩ := List.mem_map.mp h
    cases e
    exact ⟨List.mem_range.mp hz, hu⟩
  · rintro ⟨h1, h2⟩
    exact ⟨_, List.mem_map.mpr ⟨x, List.mem_range.mpr h1, rfl⟩, List.mem_map.mpr ⟨y, h2, rfl⟩⟩
theorem whole_len {hs : List (List Nat)} {c : Nat} : ∀ n, (∀ x, x < n → (hs.getD x []).length ≤ c) → (wholeM n hs).length ≤ n * c
  | 0, _ => Nat.zero_le _
  | n + 1, h => by
    rw [whole_succ, List.length_append, List.length_map, Nat.succ_mul]
    have h1 := whole_len n fun x hx => h x (by omega)
    have h2 := h n (by omega)
    omega
theorem whole_blw {n : Nat} {ps : List (Nat × Nat)} {hs : List (List Nat)} (hp : ∀ p ∈ ps, p.1 < n ∧ p.2 < n) (ha : AbvR n ps hs) {x y : Nat} : Blw (wholeM n hs) x y ↔ Blw ps x y := by
  constructor
  · exact Blw.sub fun a b h => by
      obtain ⟨h1, h2⟩ := whole_mem.mp h
      exact ((ha.2 a h1).2 b).mp h2
  · intro h
    have hx := (h.lt hp).1
    exact .one (whole_mem.mpr ⟨hx, ((ha.2 x hx).2 y).mpr h⟩)
theorem abv_len {n : Nat} {ps : List (Nat × Nat)} {hs : List (List Nat)} (hp : ∀ p ∈ ps, p.1 < n ∧ p.2 < n) (ha : AbvR n ps hs) {x : Nat} (hx : x < n) : (hs.getD x []).length ≤ n := nodup_lt (ha.2 x hx).1 fun y hy => ((((ha.2 x hx).2 y).mp hy).lt hp).2
/-- the three orders -/
theorem three_orders {n : Nat} {r : List Nat} {ps : List (Nat × Nat)} {hs : List (List Nat)} (hn0 : 1 ≤ n) (hn7 : n ≤ 7) (hr : r.Perm (List.range n)) (hl : ps.length ≤ 40) (hk : ∀ p ∈ ps, RkLt r p.1 p.2) (ha : AbvR n ps hs) :
    (∀ p ∈ ps, p.1 < n ∧ p.2 < n) ∧ GoodO n ps ∧ GoodO n (turnP ps) ∧ GoodO n (wholeM n hs) ∧ OrdR n (aboveM n ps) (Blw ps) ∧ OrdR n (aboveM n (turnP ps)) (fun x y => Blw ps y x) ∧ OrdR n (aboveM n (wholeM n hs)) (Blw ps) := by
  obtain ⟨rnd, rlen, rm⟩ := perm_rng hr
  have hp : ∀ p ∈ ps, p.1 < n ∧ p.2 < n := fun p h => ⟨(rm _).mp (rk_mem (hk p h)).1, (rm _).mp (rk_mem (hk p h)).2⟩
  have irr : ∀ x, ¬ Blw ps x x := fun x h => Nat.lt_irrefl _ (h.rank (fun z => r.idxOf z) fun p hp => rk_idx rnd (hk p hp))
  have hp' : ∀ p ∈ turnP ps, p.1 < n ∧ p.2 < n := fun p h => by
    obtain ⟨q, hq, rfl⟩ := List.mem_map.mp h
    exact ⟨(hp q hq).2, (hp q hq).1⟩
  have irr' : ∀ x, ¬ Blw (turnP ps) x x := fun x h => irr x (blw_turn.mp h)
  have hpw : ∀ p ∈ wholeM n hs, p.1 < n ∧ p.2 < n := fun p h => by
    obtain ⟨h1, h2⟩ := whole_mem.mp (show (p.1, p.2) ∈ wholeM n hs from h)
    exact ⟨h1, ((((ha.2 p.1 h1).2 p.2).mp h2).lt hp).2⟩
  have irw : ∀ x, ¬ Blw (wholeM n hs) x x := fun x h => irr x ((whole_blw hp ha).mp h)
  have wl := whole_len (hs := hs) (c := n) n fun x hx => abv_len hp ha hx
  have wl2 : n * n ≤ 7 * 7 := Nat.mul_le_mul hn7 hn7
  exact ⟨hp, good_of hn0 (by omega) (by omega) hp irr, good_of hn0 (by omega) (by unfold turnP; rw [List.length_map]; omega) hp' irr', good_of hn0 (by omega) (by omega) hpw irw,
    above_rel hp irr, (above_rel hp' irr').congr fun x y => blw_turn, (above_rel hpw irw).congr fun x y => whole_blw hp ha⟩
/-- what a turned order doesn't keep -/
theorem turned_bad {t : Tn} {hs hs' : List (List Nat)} {B : Nat → Nat → Prop} (o : OrdR t.many hs B) (o' : OrdR t.many hs' fun x y => B y x) {p : Nat × Nat × Nat} (hp : notKeptM t hs = some p) :
    ∃ q, notKeptM t hs' = some q ∧ q.1 = p.1 ∧ q.1 < t.maps.length ∧ q.2.1 < t.many ∧ q.2.2 < t.many ∧ q.2.1 ≠ q.2.2 ∧ atMostM hs q.2.2 q.2.1 = true ∧ atMostM hs ((t.maps.getD q.1 []).getD q.2.2 0) ((t.maps.getD q.1 []).getD q.2.1 0) = false := by
  have hs1 := o.sgn_turned o'
  rw [hp] at hs1
  cases hq : notKeptM t hs' with
  | none => rw [hq] at hs1; cases hs1
  | some q =>
    obtain ⟨s, x, y⟩ := q
    rw [hq] at hs1
    obtain ⟨h1, h2, h3, h4⟩ := not_some hq
    have hb := (o'.mem x h2 y).mp h3
    have hy := o'.lt x h2 y hb
    refine ⟨_, rfl, Option.some.inj hs1, h1, h2, hy, fun e => ?_, (o.most hy).mpr (.inr hb), ?_⟩
    · have e : x = y := e
      subst e
      exact o.irr x hb
    · rw [← o.turned o' (map_val h1 hy) (map_val h1 h2)]
      exact h4
theorem none_turned {t : Tn} {hs hs' : List (List Nat)} {B : Nat → Nat → Prop} (o : OrdR t.many hs B) (o' : OrdR t.many hs' fun x y => B y x) : (notKeptM t hs').isNone = (notKeptM t hs).isNone := by
  have h := o.sgn_turned o'
  cases h1 : notKeptM t hs <;> cases h2 : notKeptM t hs' <;> rw [h1, h2] at h <;> first | rfl | cases h
end El

set_option Elab.async false
set_option linter.all false
set_option maxRecDepth 100000
set_option maxHeartbeats 4000000
namespace K85
open PySem PySem.Spec L2 El
def topS (i : Nat) : Stmt := PySem.Challenge.pw_elderdraw_k85_whole_orders_turned_about.main.body.getD i (.Pass ⟨0, 0, 0, 0⟩)
abbrev s_is_whole : Stmt := topS 8
abbrev N_is_whole : List Str := ["thing"]
theorem sc_is_whole : FnScope N_is_whole ["thing"] (defScope s_is_whole) := ⟨rfl, rfl, rfl, by decide +kernel, rfl, by decide +kernel, by decide +kernel⟩
abbrev s_is_between : Stmt := topS 9
abbrev N_is_between : List Str := ["thing", "least", "most"]
theorem sc_is_between : FnScope N_is_between ["thing", "least", "most"] (defScope s_is_between) := ⟨rfl, rfl, rfl, by decide +kernel, rfl, by decide +kernel, by decide +kernel⟩
abbrev s_is_map : Stmt := topS 22
abbrev N_is_map : List Str := ["thing", "many", "to"]
theorem sc_is_map : FnScope N_is_map ["thing", "many"] (defScope s_is_map) := ⟨rfl, rfl, rfl, by decide +kernel, rfl, by decide +kernel, by decide +kernel⟩
abbrev s_Turns_init : Stmt := inClass (topS 23) 0
abbrev N_Turns_init : List Str := ["self", "many", "maps", "one"]
theorem sc_Turns_init : FnScope N_Turns_init ["self", "many", "maps"] (defScope s_Turns_init) := ⟨rfl, rfl, rfl, by decide +kernel, rfl, by decide +kernel, by decide +kernel⟩
abbrev s_Turns_len : Stmt := inClass (topS 23) 2
abbrev N_Turns_len : List Str := ["self"]
theorem sc_Turns_len : FnScope N_Turns_len ["self"] (defScope s_Turns_len) := ⟨rfl, rfl, rfl, by decide +kernel, rfl, by decide +kernel, by decide +kernel⟩
abbrev s_check_signs : Stmt := topS 11
abbrev N_check_signs : List Str := ["turns", "signs", "sign"]
theorem sc_check_signs : FnScope N_check_signs ["turns", "signs"] (defScope s_check_signs) := ⟨rfl, rfl, rfl, by decide +kernel, rfl, by decide +kernel, by decide +kernel⟩
abbrev s_is_pair : Stmt := topS 14
abbrev N_is_pair : List Str := ["thing", "many", "place"]
theorem sc_is_pair : FnScope N_is_pair ["thing", "many"] (defScope s_is_pair) := ⟨rfl, rfl, rfl, by decide +kernel, rfl, by decide +kernel, by decide +kernel⟩
abbrev s_above : Stmt := topS 15
abbrev N_above : List Str := ["pairs", "many", "onward", "place", "x", "y", "found", "waiting", "reached", "one"]
theorem sc_above : FnScope N_above ["pairs", "many"] (defScope s_above) := ⟨rfl, rfl, rfl, by decide +kernel, rfl, by decide +kernel, by decide +kernel⟩
abbrev s_Order_init : Stmt := inClass (topS 16) 0
abbrev N_Order_init : List Str := ["self", "many", "pairs", "pair", "place"]
theorem sc_Order_init : FnScope N_Order_init ["self", "many", "pairs"] (defScope s_Order_init) := ⟨rfl, rfl, rfl, by decide +kernel, rfl, by decide +kernel, by decide +kernel⟩
abbrev s_Order_len : Stmt := inClass (topS 16) 1
abbrev N_Order_len : List Str := ["self"]
theorem sc_Order_len : FnScope N_Order_len ["self"] (defScope s_Order_len) := ⟨rfl, rfl, rfl, by decide +kernel, rfl, by decide +kernel, by decide +kernel⟩
abbrev s_Order_at_most : Stmt := inClass (topS 16) 2
abbrev N_Order_at_most : List Str := ["self", "x", "y"]
theorem sc_Order_at_most : FnScope N_Order_at_most ["self", "x", "y"] (defScope s_Order_at_most) := ⟨rfl, rfl, rfl, by decide +kernel, rfl, by decide +kernel, by decide +kernel⟩
abbrev s_Order_least : Stmt := inClass (topS 16) 3
abbrev N_Order_least : List Str := ["self", "place", "reached"]
theorem sc_Order_least : FnScope N_Order_least ["self"] (defScope s_Order_least) := ⟨rfl, rfl, rfl, by decide +kernel, rfl, by decide +kernel, by decide +kernel⟩
abbrev s_Order_greatest : Stmt := inClass (topS 16) 4
abbrev N_Order_greatest : List Str := ["self", "place", "one"]
theorem sc_Order_greatest : FnScope N_Order_greatest ["self"] (defScope s_Order_greatest) := ⟨rfl, rfl, rfl, by decide +kernel, rfl, by decide +kernel, by decide +kernel⟩
abbrev s_not_kept : Stmt := topS 17
abbrev N_not_kept : List Str := ["turns", "order", "sign", "leads", "x", "y"]
theorem sc_not_kept : FnScope N_not_kept ["turns", "order"] (defScope s_not_kept) := ⟨rfl, rfl, rfl, by decide +kernel, rfl, by decide +kernel, by decide +kernel⟩
abbrev s_NotKept_init : Stmt := inClass (topS 5) 0
abbrev N_NotKept_init : List Str := ["self", "kept"]
theorem sc_NotKept_init : FnScope N_NotKept_init ["self", "kept"] (defScope s_NotKept_init) := ⟨rfl, rfl, rfl, by decide +kernel, rfl, by decide +kernel, by decide +kernel⟩
abbrev s_drawn_between : Stmt := topS 18
abbrev N_drawn_between : List Str := ["turns", "order", "signs", "kept", "low", "high", "found", "k", "sign", "to"]
theorem sc_drawn_between : FnScope N_drawn_between ["turns", "order", "signs"] (defScope s_drawn_between) := ⟨rfl, rfl, rfl, by decide +kernel, rfl, by decide +kernel, by decide +kernel⟩
abbrev s__law_well : Stmt := topS 25
abbrev N__law_well : List Str := ["_law_cell"]
theorem sc__law_well : FnScope N__law_well ["_law_cell"] (defScope s__law_well) := ⟨rfl, rfl, rfl, by decide +kernel, rfl, by decide +kernel, by decide +kernel⟩
abbrev s__law_draw : Stmt := topS 26
abbrev N__law_draw : List Str := ["_law_well_here", "_law_many", "_law_digit", "_law_prime", "_law_number"]
theorem sc__law_draw : FnScope N__law_draw ["_law_well_here", "_law_many"] (defScope s__law_draw) := ⟨rfl, rfl, rfl, by decide +kernel, rfl, by decide +kernel, by decide +kernel⟩
abbrev s__law_above : Stmt := topS 28
abbrev N__law_above : List Str := ["_law_many", "_law_pairs_here", "_law_found", "_law_place", "_law_row", "_law_x", "_law_y", "_law_at", "_law_more"]
theorem sc__law_above : FnScope N__law_above ["_law_many", "_law_pairs_here"] (defScope s__law_above) := ⟨rfl, rfl, rfl, by decide +kernel, rfl, by decide +kernel, by decide +kernel⟩
abbrev s__law_ranking : Stmt := topS 29
abbrev N__law_ranking : List Str := ["_law_well_here", "_law_many", "_law_left", "_law_found"]
theorem sc__law_ranking : FnScope N__law_ranking ["_law_well_here", "_law_many"] (defScope s__law_ranking) := ⟨rfl, rfl, rfl, by decide +kernel, rfl, by decide +kernel, by decide +kernel⟩
abbrev s__law_pairs : Stmt := topS 30
abbrev N__law_pairs : List Str := ["_law_well_here", "_law_ranking_here", "_law_many", "_law_way", "_law_k", "_law_found", "_law_low", "_law_place"]
theorem sc__law_pairs : FnScope N__law_pairs ["_law_well_here", "_law_ranking_here"] (defScope s__law_pairs) := ⟨rfl, rfl, rfl, by decide +kernel, rfl, by decide +kernel, by decide +kernel⟩
abbrev s__law_step : Stmt := topS 31
abbrev N__law_step : List Str := ["_law_well_here", "_law_ranking_here", "_law_higher", "_law_is_kept", "_law_many", "_law_leads", "_law_place", "_law_way", "_law_other"]
theorem sc__law_step : FnScope N__law_step ["_law_well_here", "_law_ranking_here", "_law_higher", "_law_is_kept"] (defScope s__law_step) := ⟨rfl, rfl, rfl, by decide +kernel, rfl, by decide +kernel, by decide +kernel⟩
abbrev s__law_told : Stmt := topS 32
abbrev N__law_told : List Str := ["_law_turns", "_law_order", "_law_signs", "e"]
theorem sc__law_told : FnScope N__law_told ["_law_turns", "_law_order", "_law_signs"] (defScope s__law_told) := ⟨rfl, rfl, rfl, by decide +kernel, rfl, by decide +kernel, by decide +kernel⟩
abbrev s__law_orders_right : Stmt := topS 33
abbrev N__law_orders_right : List Str := ["_law_order", "_law_turned", "_law_whole", "_law_x", "_law_y"]
theorem sc__law_orders_right : FnScope N__law_orders_right ["_law_order", "_law_turned", "_law_whole"] (defScope s__law_orders_right) := ⟨rfl, rfl, rfl, by decide +kernel, rfl, by decide +kernel, by decide +kernel⟩
abbrev s__law_kept_right : Stmt := topS 34
abbrev N__law_kept_right : List Str := ["_law_turns", "_law_order", "_law_turned", "_law_whole", "_law_one_here", "_law_other", "_law_sign", "_law_x", "_law_y", "_law_leads"]
theorem sc__law_kept_right : FnScope N__law_kept_right ["_law_turns", "_law_order", "_law_turned", "_law_whole"] (defScope s__law_kept_right) := ⟨rfl, rfl, rfl, by decide +kernel, rfl, by decide +kernel, by decide +kernel⟩
abbrev s_law : Stmt := topS 35
abbrev N_law : List Str := ["_law_script", "_law_cell", "_law_well_here", "_law_ranking_here", "_law_many", "_law_pairs_here", "_law_higher", "_law_is_kept", "_law_maps", "_law_sign", "_law_turns", "_law_order", "_law_turned", "_law_x", "_law_y", "_law_whole", "_law_signs", "_law_k", "_law_due"]
theorem sc_law : FnScope N_law ["_law_script"] (defScope s_law) := ⟨rfl, rfl, rfl, by decide +kernel, rfl, by decide +kernel, by decide +kernel⟩
structure Tx (K : PySem.W.Frag) (mg : Str → Option Value) where
  a_is_whole : Addr
  d_is_whole : FuncData
  F_is_whole : Fun K "is_whole" "is_whole" s_is_whole a_is_whole d_is_whole
  b_is_whole : Binds K d_is_whole ["thing"] []
  g_is_whole : mg "is_whole" = some (.ref a_is_whole)
  a_is_between : Addr
  d_is_between : FuncData
  F_is_between : Fun K "is_between" "is_between" s_is_between a_is_between d_is_between
  b_is_between : Binds K d_is_between ["thing", "least", "most"] []
  g_is_between : mg "is_between" = some (.ref a_is_between)
  a_is_map : Addr
  d_is_map : FuncData
  F_is_map : Fun K "is_map" "is_map" s_is_map a_is_map d_is_map
  b_is_map : Binds K d_is_map ["thing", "many"] []
  g_is_map : mg "is_map" = some (.ref a_is_map)
  a_Turns_init : Addr
  d_Turns_init : FuncData
  F_Turns_init : Fun K "__init__" "Turns.__init__" s_Turns_init a_Turns_init d_Turns_init
  b_Turns_init : Binds K d_Turns_init ["self", "many", "maps"] []
  a_Turns_len : Addr
  d_Turns_len : FuncData
  F_Turns_len : Fun K "__len__" "Turns.__len__" s_Turns_len a_Turns_len d_Turns_len
  b_Turns_len : Binds K d_Turns_len ["self"] []
  a_check_signs : Addr
  d_check_signs : FuncData
  F_check_signs : Fun K "check_signs" "check_signs" s_check_signs a_check_signs d_check_signs
  b_check_signs : Binds K d_check_signs ["turns", "signs"] []
  g_check_signs : mg "check_signs" = some (.ref a_check_signs)
  a_is_pair : Addr
  d_is_pair : FuncData
  F_is_pair : Fun K "is_pair" "is_pair" s_is_pair a_is_pair d_is_pair
  b_is_pair : Binds K d_is_pair ["thing", "many"] []
  g_is_pair : mg "is_pair" = some (.ref a_is_pair)
  a_above : Addr
  d_above : FuncData
  F_above : Fun K "above" "above" s_above a_above d_above
  b_above : Binds K d_above ["pairs", "many"] []
  g_above : mg "above" = some (.ref a_above)
  a_Order_init : Addr
  d_Order_init : FuncData
  F_Order_init : Fun K "__init__" "Order.__init__" s_Order_init a_Order_init d_Order_init
  b_Order_init : Binds K d_Order_init ["self", "many", "pairs"] []
  a_Order_len : Addr
  d_Order_len : FuncData
  F_Order_len : Fun K "__len__" "Order.__len__" s_Order_len a_Order_len d_Order_len
  b_Order_len : Binds K d_Order_len ["self"] []
  a_Order_at_most : Addr
  d_Order_at_most : FuncData
  F_Order_at_most : Fun K "at_most" "Order.at_most" s_Order_at_most a_Order_at_most d_Order_at_most
  b_Order_at_most : Binds K d_Order_at_most ["self", "x", "y"] []
  a_Order_least : Addr
  d_Order_least : FuncData
  F_Order_least : Fun K "least" "Order.least" s_Order_least a_Order_least d_Order_least
  b_Order_least : Binds K d_Order_least ["self"] []
  a_Order_greatest : Addr
  d_Order_greatest : FuncData
  F_Order_greatest : Fun K "greatest" "Order.greatest" s_Order_greatest a_Order_greatest d_Order_greatest
  b_Order_greatest : Binds K d_Order_greatest ["self"] []
  a_not_kept : Addr
  d_not_kept : FuncData
  F_not_kept : Fun K "not_kept" "not_kept" s_not_kept a_not_kept d_not_kept
  b_not_kept : Binds K d_not_kept ["turns", "order"] []
  g_not_kept : mg "not_kept" = some (.ref a_not_kept)
  a_NotKept_init : Addr
  d_NotKept_init : FuncData
  F_NotKept_init : Fun K "__init__" "NotKept.__init__" s_NotKept_init a_NotKept_init d_NotKept_init
  b_NotKept_init : Binds K d_NotKept_init ["self", "kept"] []
  a_drawn_between : Addr
  d_drawn_between : FuncData
  F_drawn_between : Fun K "drawn_between" "drawn_between" s_drawn_between a_drawn_between d_drawn_between
  b_drawn_between : Binds K d_drawn_between ["turns", "order", "signs"] []
  g_drawn_between : mg "drawn_between" = some (.ref a_drawn_between)
  a__law_well : Addr
  d__law_well : FuncData
  F__law_well : Fun K "_law_well" "_law_well" s__law_well a__law_well d__law_well
  b__law_well : Binds K d__law_well ["_law_cell"] []
  g__law_well : mg "_law_well" = some (.ref a__law_well)
  a__law_draw : Addr
  d__law_draw : FuncData
  F__law_draw : Fun K "_law_draw" "_law_draw" s__law_draw a__law_draw d__law_draw
  b__law_draw : Binds K d__law_draw ["_law_well_here", "_law_many"] []
  g__law_draw : mg "_law_draw" = some (.ref a__law_draw)
  a__law_above : Addr
  d__law_above : FuncData
  F__law_above : Fun K "_law_above" "_law_above" s__law_above a__law_above d__law_above
  b__law_above : Binds K d__law_above ["_law_many", "_law_pairs_here"] []
  g__law_above : mg "_law_above" = some (.ref a__law_above)
  a__law_ranking : Addr
  d__law_ranking : FuncData
  F__law_ranking : Fun K "_law_ranking" "_law_ranking" s__law_ranking a__law_ranking d__law_ranking
  b__law_ranking : Binds K d__law_ranking ["_law_well_here", "_law_many"] []
  g__law_ranking : mg "_law_ranking" = some (.ref a__law_ranking)
  a__law_pairs : Addr
  d__law_pairs : FuncData
  F__law_pairs : Fun K "_law_pairs" "_law_pairs" s__law_pairs a__law_pairs d__law_pairs
  b__law_pairs : Binds K d__law_pairs ["_law_well_here", "_law_ranking_here"] []
  g__law_pairs : mg "_law_pairs" = some (.ref a__law_pairs)
  a__law_step : Addr
  d__law_step : FuncData
  F__law_step : Fun K "_law_step" "_law_step" s__law_step a__law_step d__law_step
  b__law_step : Binds K d__law_step ["_law_well_here", "_law_ranking_here", "_law_higher", "_law_is_kept"] []
  g__law_step : mg "_law_step" = some (.ref a__law_step)
  a__law_told : Addr
  d__law_told : FuncData
  F__law_told : Fun K "_law_told" "_law_told" s__law_told a__law_told d__law_told
  b__law_told : Binds K d__law_told ["_law_turns", "_law_order", "_law_signs"] []
  g__law_told : mg "_law_told" = some (.ref a__law_told)
  a__law_orders_right : Addr
  d__law_orders_right : FuncData
  F__law_orders_right : Fun K "_law_orders_right" "_law_orders_right" s__law_orders_right a__law_orders_right d__law_orders_right
  b__law_orders_right : Binds K d__law_orders_right ["_law_order", "_law_turned", "_law_whole"] []
  g__law_orders_right : mg "_law_orders_right" = some (.ref a__law_orders_right)
  a__law_kept_right : Addr
  d__law_kept_right : FuncData
  F__law_kept_right : Fun K "_law_kept_right" "_law_kept_right" s__law_kept_right a__law_kept_right d__law_kept_right
  b__law_kept_right : Binds K d__law_kept_right ["_law_turns", "_law_order", "_law_turned", "_law_whole"] []
  g__law_kept_right : mg "_law_kept_right" = some (.ref a__law_kept_right)
  a_law : Addr
  d_law : FuncData
  F_law : Fun K "law" "law" s_law a_law d_law
  b_law : Binds K d_law ["_law_script"] []
  g_law : mg "law" = some (.ref a_law)
  C_Order : Addr
  cl_Order : Cls K C_Order
  g_Order : mg "Order" = some (.ref C_Order)
  mk_Order : Mk K C_Order a_Order_init
  C_Turns : Addr
  cl_Turns : Cls K C_Turns
  g_Turns : mg "Turns" = some (.ref C_Turns)
  mk_Turns : Mk K C_Turns a_Turns_init
  C_DrawError : Addr
  g_DrawError : mg "DrawError" = some (.ref C_DrawError)
  base_DrawError : BaseC K C_DrawError
  C_NotKept : Addr
  g_NotKept : mg "NotKept" = some (.ref C_NotKept)
  oex_NotKept : OexC K C_NotKept
  ii_NotKept : PySem.W.findIn K (.ref C_NotKept) "__init__" = some (some (.ref a_NotKept_init))
  tf_NotKept : PySem.W.typeIn K (.ref a_NotKept_init) = some (.type "function")
  xf_NotKept : XfC K C_NotKept
  nf_NotKept : PySem.W.findIn K (.ref C_NotKept) "kept" = some none
  te_NotKept : PySem.W.exmOne K (.ref C_NotKept) (.ref C_NotKept) = some true
  C_NoEnds : Addr
  g_NoEnds : mg "NoEnds" = some (.ref C_NoEnds)
  xp_NoEnds : PySem.W.excIn K C_NoEnds [.type "ValueError", .type "Exception", .type "BaseException", .type "object"] "ValueError.__new__" = true
  xk_NoEnds : PySem.W.keepIn K (.ref C_NoEnds) = true
  xe_NoEnds : PySem.W.subIn K (.ref C_NoEnds) (.type "BaseException") = some true
  xt_NoEnds : PySem.W.typeIn K (.ref C_NoEnds) = some (.type "type")
  te_NoEnds : PySem.W.exmOne K (.ref C_NoEnds) (.ref C_NoEnds) = some true
  tm_NoEnds_NotKept : PySem.W.exmOne K (.ref C_NoEnds) (.ref C_NotKept) = some false
  m_Order_len : Meth K C_Order "__len__" a_Order_len
  m_Order_at_most : Meth K C_Order "at_most" a_Order_at_most
  m_Order_greatest : Meth K C_Order "greatest" a_Order_greatest
  m_Order_least : Meth K C_Order "least" a_Order_least
  m_Turns_len : Meth K C_Turns "__len__" a_Turns_len
  na_Order_higher : NoAttr K C_Order "higher"
  na_Turns_many : NoAttr K C_Turns "many"
  na_Turns_maps : NoAttr K C_Turns "maps"
  z_all : mg "all" = none
  z_any : mg "any" = none
  z_bool : mg "bool" = none
  z_enumerate : mg "enumerate" = none
  z_int : mg "int" = none
  z_isinstance : mg "isinstance" = none
  z_len : mg "len" = none
  z_list : mg "list" = none
  z_max : mg "max" = none
  z_min : mg "min" = none
  z_range : mg "range" = none
  z_set : mg "set" = none
  z_sorted : mg "sorted" = none
  z_tuple : mg "tuple" = none
  t_MOST_PLACES_orders : Tok
  c_MOST_PLACES_orders : mg "MOST_PLACES_orders" = some (.int 32 t_MOST_PLACES_orders)
  t_MOST_PLACES_turns : Tok
  c_MOST_PLACES_turns : mg "MOST_PLACES_turns" = some (.int 32 t_MOST_PLACES_turns)
  t_MOST_SIGNS : Tok
  c_MOST_SIGNS : mg "MOST_SIGNS" = some (.int 200 t_MOST_SIGNS)
section
variable {P : Program} {w : World} {K : PySem.W.Frag} {mg : Str → Option Value} {base : Heap}
local macro_rules | `(tactic| walk_at "rp") => `(tactic| first
  | assumption
  | exact (show _ = _ from rfl)
  | (apply rpm (Gr.ff (by assumption)); (case r => walk_at "rp"); (case m => infer_instance))
  | (apply rpm (by assumption); (case r => walk_at "rp"); (case m => infer_instance)))
local macro_rules | `(tactic| walk_at "ex") => `(tactic| first
  | assumption
  | exact Ex.refl _
  | exact Gr.fh (by assumption)
  | exact Gr.ff (by assumption)
  | (refine' Ex.trans ?_ (Gr.ff (by assumption)); walk_at "ex")
  | (refine' Ex.trans ?_ (by assumption); walk_at "ex"))
local macro_rules | `(tactic| walk_at "sd") => `(tactic| first | trivial | assumption | omega | exact atI_natL (by assumption) | exact ⟨by omega, by omega⟩)
local macro_rules | `(tactic| walk_at "n") => `(tactic| (repeat (first | with_reducible apply sn | with_reducible apply sq | (dsimp only))))
local macro_rules | `(tactic| walk_at "eo") => `(tactic| first
  | with_reducible exact eo_none
  | ((with_reducible apply eo_some); walk_at "ev"))
local macro_rules | `(tactic| walk_at "el") => `(tactic| first
  | with_reducible exact el_nil
  | ((with_reducible apply el_cons); (case h => walk_at "ev"); (case hr => walk_at "el"); (case m => infer_instance)))
local macro_rules | `(tactic| walk_at "et") => `(tactic| first
  | ((with_reducible apply et_test); walk_at "ev")
  | ((with_reducible apply et_B); walk_at "ev")
  | ((with_reducible apply et_not); walk_at "et")
  | ((with_reducible apply et_and); (case h1 => walk_at "et"); (case h2 => intro hh; clear hh; walk_at "et"))
  | ((with_reducible apply et_or); (case h1 => walk_at "et"); (case h2 => intro hh; clear hh; walk_at "et")))
local macro_rules | `(tactic| walk_at "ev") => `(tactic| first
  | with_reducible exact ev_int
  | with_reducible exact ev_bl
  | with_reducible exact ev_str
  | with_reducible exact ev_noneO
  | with_reducible exact ev_non
  | with_reducible exact ev_ty
  | with_reducible exact ev_ref
  | ((with_reducible apply ev_var); (case h => rfl); (case r => walk_at "rp"); (case m => infer_instance))
  | ((with_reducible apply ev_add); (case ha => walk_at "ev"); (case hb => walk_at "ev"))
  | ((with_reducible apply ev_sub); (case ha => walk_at "ev"); (case hb => walk_at "ev"))
  | ((with_reducible apply ev_mul); (case ha => walk_at "ev"); (case hb => walk_at "ev"); (try (case hc => walk_at "sd")))
  | ((with_reducible apply ev_mod); (case ha => walk_at "ev"); (case hb => walk_at "ev"); (try (case hc => walk_at "sd")))
  | ((with_reducible apply ev_fdiv); (case ha => walk_at "ev"); (case hb => walk_at "ev"); (try (case hc => walk_at "sd")))
  | ((with_reducible apply ev_pow); (case ha => walk_at "ev"); (case hb => walk_at "ev"); (try (case hc => walk_at "sd")))
  | ((with_reducible apply ev_lt); (case ha => walk_at "ev"); (case hb => walk_at "ev"))
  | ((with_reducible apply ev_le); (case ha => walk_at "ev"); (case hb => walk_at "ev"))
  | ((with_reducible apply ev_gt); (case ha => walk_at "ev"); (case hb => walk_at "ev"))
  | ((with_reducible apply ev_ge); (case ha => walk_at "ev"); (case hb => walk_at "ev"))
  | ((with_reducible apply ev_chain); (case ha => walk_at "ev"); (case hb => walk_at "ev"); (case hc => walk_at "ev"))
  | ((with_reducible apply ev_eqI); (case ha => walk_at "ev"); (case hb => walk_at "ev"))
  | ((with_reducible apply ev_neI); (case ha => walk_at "ev"); (case hb => walk_at "ev"))
  | ((with_reducible apply ev_eqS); (case ha => walk_at "ev"); (case hb => walk_at "ev"))
  | ((with_reducible apply ev_neS); (case ha => walk_at "ev"); (case hb => walk_at "ev"))
  | ((with_reducible apply ev_isN); (case ha => walk_at "ev"); (case n => infer_instance))
  | ((with_reducible apply ev_notN); (case ha => walk_at "ev"); (case n => infer_instance))
  | ((with_reducible apply ev_neg); walk_at "ev")
  | ((with_reducible apply ev_fld); (case ha => walk_at "ev"); (case c => infer_instance))
  | ((with_reducible apply ev_lenL); walk_at "ev")
  | ((with_reducible apply ev_lenT); walk_at "ev")
  | ((with_reducible apply ev_lenOwn); (case ha => walk_at "ev"); (try (case hz => walk_at "sd")))
  | ((with_reducible apply ev_lenSet); (case ha => walk_at "ev"); (try (case hz => walk_at "sd")))
  | ((with_reducible apply ev_call1); (case ha => walk_at "ev"); (try (case p => walk_at "sd")))
  | ((with_reducible apply ev_call2); (case ha => walk_at "ev"); (case hb => walk_at "ev"); (try (case p => walk_at "sd")); (case m => infer_instance))
  | ((with_reducible apply ev_call3); (case ha => walk_at "ev"); (case hb => walk_at "ev"); (case hc => walk_at "ev"); (try (case p => walk_at "sd")); (case m => infer_instance); (case n => infer_instance))
  | ((with_reducible apply ev_call4); (case ha => walk_at "ev"); (case hb => walk_at "ev"); (case hc => walk_at "ev"); (case hd => walk_at "ev"); (try (case p => walk_at "sd")); (case m => infer_instance); (case n => infer_instance); (case o => infer_instance))
  | ((with_reducible apply ev_meth0); (case ha => walk_at "ev"); (try (case p => walk_at "sd")))
  | ((with_reducible apply ev_meth1); (case ha => walk_at "ev"); (case hb => walk_at "ev"); (try (case p => walk_at "sd")); (case m' => infer_instance))
  | ((with_reducible apply ev_meth2); (case ha => walk_at "ev"); (case hb => walk_at "ev"); (case hc => walk_at "ev"); (try (case p => walk_at "sd")); (case m' => infer_instance); (case n' => infer_instance))
  | ((with_reducible apply ev_fst); (case ha => walk_at "ev"); (case m => infer_instance))
  | ((with_reducible apply ev_snd); (case ha => walk_at "ev"); (case m => infer_instance))
  | ((with_reducible apply ev_ixL); (case ha => walk_at "ev"); (case hb => walk_at "ev"); (try (case h => walk_at "sd")); (case m => infer_instance))
  | ((with_reducible apply ev_ixT); (case ha => walk_at "ev"); (case hb => walk_at "ev"); (try (case h => walk_at "sd")); (case m => infer_instance))
  | ((with_reducible apply ev_isIntInt); walk_at "ev")
  | ((with_reducible apply ev_isIntBool); walk_at "ev")
  | ((with_reducible apply ev_isTup); walk_at "ev")
  | ((with_reducible apply ev_isLst); walk_at "ev")
  | ((with_reducible apply ev_isStr); walk_at "ev")
  | ((with_reducible apply ev_tupL); (case ha => walk_at "ev"); (case m => infer_instance))
  | ((with_reducible apply ev_listL); (case ha => walk_at "ev"); (case m => infer_instance))
  | ((with_reducible apply ev_listT); (case ha => walk_at "ev"); (case m => infer_instance))
  | ((with_reducible apply ev_tupRg); (case ha => walk_at "ev"); (try (case hn => walk_at "sd")))
  | ((with_reducible apply ev_lstRg); (case ha => walk_at "ev"); (try (case hn => walk_at "sd")))
  | ((with_reducible apply ev_all); walk_at "ev")
  | ((with_reducible apply ev_any); walk_at "ev")
  | ((with_reducible apply ev_sum); walk_at "ev")
  | ((with_reducible apply ev_notV); walk_at "ev")
  | ((with_reducible apply ev_andV); (case h1 => walk_at "ev"); (case h2 => intro hh; clear hh; walk_at "ev"))
  | ((with_reducible apply ev_orV); (case h1 => walk_at "ev"); (case h2 => intro hh; clear hh; walk_at "ev"))
  | ((with_reducible apply ev_cat); (case ha => walk_at "ev"); (case hb => walk_at "ev"); (try (case hz => walk_at "sd")); (case m => infer_instance))
  | ((with_reducible apply ev_lst); (case h => walk_at "el"); (try (case hz => simp only [List.length_cons, List.length_nil, sizeLine_eq]; omega)); (case m => infer_instance))
  | ((with_reducible apply ev_tup); (case h => walk_at "el"); (try (case hz => simp only [List.length_cons, List.length_nil, sizeLine_eq]; omega)); (case m => infer_instance))
  | ((with_reducible apply ev_pr); (case ha => walk_at "ev"); (case hb => walk_at "ev"); (case m => infer_instance); (case n => infer_instance))
  | ((with_reducible apply ev_slL); (case h => walk_at "ev"); (case h1 => walk_at "eo"); (case h2 => walk_at "eo"); (case m => infer_instance))
  | ((with_reducible apply ev_rep1); (case ha => walk_at "ev"); (case hb => walk_at "ev"); (try (case hn => walk_at "sd")); (try (case h0 => walk_at "sd")); (case m => infer_instance))
  | ((with_reducible apply Ev.nat); walk_at "ev"))

abbrev sp_is_whole (T : Tx K mg) : Sp := Sp1 rInt (fun _ => True) rBl (fun _ => true)
theorem ok_is_whole (T : Tx K mg) : FnOk P w K mg base CX0 1 T.a_is_whole T.d_is_whole ["thing"] (sp_is_whole T) := by
  refine T.F_is_whole.ok sc_is_whole (fun vs H Q E h => SpLen.len h) (fun cdv A outer s H vs Q E hr h => ?_)
  obtain ⟨F, v, x, rfl, e, r, -, k⟩ := h
  refine ⟨_, (by exact (pss_one (ps_ret (pe_and (pe_callB (r := rIsi K) call_isi (by rfl) T.z_isinstance (by decide +kernel) (pa_cons (pv 0) (pa_cons (pe_bltn (v := .ty "int") (by rfl) T.z_int (by decide +kernel) rfl) pa_nil))) (pe_one (pe_not (pe_callB (r := rIsi K) call_isi (by rfl) T.z_isinstance (by decide +kernel) (pa_cons (pv 0) (pa_cons (pe_bltn (v := .ty "bool") (by rfl) T.z_bool (by decide +kernel) rfl) pa_nil))))))))), ?_⟩
  try dsimp only [cxOf]
  apply x_ret e
  case h => walk_at "ev"
  exact k

abbrev sp_is_between (T : Tx K mg) : Sp := Sp3 rInt rInt rInt (fun _ _ _ => True) rBl (fun x y z => decide (y ≤ x) && decide (x ≤ z))
theorem ok_is_between (T : Tx K mg) : FnOk P w K mg base CX0 2 T.a_is_between T.d_is_between ["thing", "least", "most"] (sp_is_between T) := by
  refine T.F_is_between.ok sc_is_between (fun vs H Q E h => SpLen.len h) (fun cdv A outer s H vs Q E hr h => ?_)
  obtain ⟨F, v, w, u, x, y, z, rfl, e, r1, r2, r3, -, k⟩ := h
  refine ⟨_, (by exact (pss_one (ps_ret (pe_and (pe_call (ok_is_whole T) (hr.mono (by decide)) rfl T.g_is_whole T.F_is_whole.kp T.b_is_whole .nil pass0 (pa_cons (pv 0) pa_nil)) (pe_one (pe_chain op_le op_le (pv 1) (pv 0) (pv 2))))))), ?_⟩
  try dsimp only [cxOf]
  apply x_ret e
  case h => walk_at "ev"
  intro v F' H' g r
  rw [Bool.true_and] at r
  exact k v F' H' g r

instance {T : Tx K mg} : IsF (rTurns T.C_Turns) K "many" rNat Tn.many := fld_many T.cl_Turns T.na_Turns_many
instance {T : Tx K mg} : IsF (rTurns T.C_Turns) K "maps" (rLst (rTup rNat)) Tn.maps := fld_maps T.cl_Turns T.na_Turns_maps
abbrev sp_is_map (T : Tx K mg) : Sp := Sp2 (rTup rNat) rNat (fun m n => IsMap n m ∧ n ≤ 1000) rBl (fun _ _ => true)
theorem ok_is_map (T : Tx K mg) : FnOk P w K mg base CX0 3 T.a_is_map T.d_is_map ["thing", "many"] (sp_is_map T) := by
  refine T.F_is_map.ok sc_is_map (fun vs H Q E h => SpLen.len h) (fun cdv A outer s H vs Q E hr h => ?_)
  obtain ⟨F, v, w, m, n, rfl, e, r1, r2, ⟨p, pn⟩, k⟩ := h
  cases (show w = _ from r2)
  refine ⟨_, (by exact (pss_one (ps_ret (pe_and (pe_callB (r := rIsi K) call_isi (by rfl) T.z_isinstance (by decide +kernel) (pa_cons (pv 0) (pa_cons (pe_bltn (v := .ty "tuple") (by rfl) T.z_tuple (by decide +kernel) rfl) pa_nil))) (pe_and (pe_cmpR op_eq (pe_callB (r := rLenS K) call_len_seq (by rfl) T.z_len PySem.boot_len (pa_cons (pv 0) pa_nil)) (pv 1) (nomark _)) (pe_one (pe_callB (r := rAll K) (cr_all rfl) (by rfl) T.z_all (by decide +kernel) (pa_cons (pe_lc (own := [("to", 2)]) (g := gName 2) (tt := tYes) rfl sc_is_map.nd (ktup K (pv 0)) (blkOk_by (own := [("to", 2)]) (N := N_is_map) (sc := defScope s_is_map) (by decide +kernel)) (fun _ _ _ _ _ => (pg_name (i := 2) sc_is_map.nd rfl (by first | exact Or.inl rfl | exact Or.inr rfl))) (fun _ _ _ _ _ => pts_nil) (fun _ _ _ _ _ => (pe_call (ok_is_between T) (hr.mono (by decide)) rfl T.g_is_between T.F_is_between.kp T.b_is_between .nil pass0 (pa_cons (pv 2) (pa_cons pe_int (pa_cons (pe_op op_sub (pv 1) pe_int) pa_nil)))))) pa_nil)))))))), ?_⟩
  try dsimp only [cxOf]
  apply x_ret e
  case h =>
    refine ev_andV (a := true) (b := true) ?_ fun _ => ev_andV (a := true) (b := true) ?_ fun _ => ?_
    · walk_at "ev"
    · exact (Ev.is (ev_eqI (ev_lenT (ev_var rfl r1)) (ev_var rfl rfl)) (by rw [p.1]; simp))
    · refine (ev_all (ev_lcTm (R := rNat) (fun _ => true) (ev_var rfl r1) (by rw [p.1]; omega) (fun v => rfl) ?_)).is (List.all_eq_true.mpr fun b hb => ?_)
      · intro i x v F1 H1 hx g r
        cases (show v = _ from r)
        have := p.2 x (mem_of_at hx)
        apply Ev.is
        · walk_at "ev"
        · rw [decide_eq_true (by omega), decide_eq_true (by omega)] <;> rfl
      · obtain ⟨x, hx, rfl⟩ := List.mem_map.mp hb
        rfl
  exact k
abbrev sp_Turns_init (T : Tx K mg) : Sp := SpTurns T.C_Turns
theorem ok_Turns_init (T : Tx K mg) : FnOk P w K mg base CX0 4 T.a_Turns_init T.d_Turns_init ["self", "many", "maps"] (sp_Turns_init T) := by
  refine T.F_Turns_init.ok sc_Turns_init (fun vs H Q E h => SpLen.len h) (fun cdv A outer s H vs Q E hr h => ?_)
  obtain ⟨F, a, dx, l, t, rfl, e, fa, ha, rl, k⟩ := h
  have t0 := t.h0
  have t1 := t.h1
  have t2 := t.h2
  have t3 := t.h3
  refine ⟨_, (by exact (pss_cons (ps_if (pt_not (pt_val (pe_call (ok_is_between T) (hr.mono (by decide)) rfl T.g_is_between T.F_is_between.kp T.b_is_between .nil pass0 (pa_cons (pv 1) (pa_cons pe_int (pa_cons (pe_glob (v := .int 32) rfl T.c_MOST_PLACES_turns ⟨_, rfl⟩) pa_nil)))))) (pss_one ps_never) pss_nil)
      (pss_cons (ps_if (PW.pt (pw_or (pt_not (pt_val (pe_callB (r := rIsi K) call_isi (by rfl) T.z_isinstance (by decide +kernel) (pa_cons (pv 2) (pa_cons (pe_bltn (v := .ty "list") (by rfl) T.z_list (by decide +kernel) rfl) pa_nil))))) (pw_or1 (pt_not (pt_chain op_le op_le pe_int (pe_callB (r := rLenS K) call_len_seq (by rfl) T.z_len PySem.boot_len (pa_cons (pv 2) pa_nil)) (pe_glob (v := .int 200) rfl T.c_MOST_SIGNS ⟨_, rfl⟩)))))) (pss_one ps_never) pss_nil)
      (pss_cons (ps_if (pt_not (pt_val (pe_callB (r := rAll K) (cr_all rfl) (by rfl) T.z_all (by decide +kernel) (pa_cons (pe_lc (own := [("one", 3)]) (g := gName 3) (tt := tYes) rfl sc_Turns_init.nd (klist K (pv 2)) (blkOk_by (own := [("one", 3)]) (N := N_Turns_init) (sc := defScope s_Turns_init) (by decide +kernel)) (fun _ _ _ _ _ => (pg_name (i := 3) sc_Turns_init.nd rfl (by first | exact Or.inl rfl | exact Or.inr rfl))) (fun _ _ _ _ _ => pts_nil) (fun _ _ _ _ _ => (pe_call (ok_is_map T) (hr.mono (by decide)) rfl T.g_is_map T.F_is_map.kp T.b_is_map .nil pass0 (pa_cons (pv 3) (pa_cons (pv 1) pa_nil))))) pa_nil)))) (pss_one ps_never) pss_nil)
      (pss_cons (kset K (pv 0) (pv 1) rfl)
      (pss_one (kset K (pv 0) (pe_callTy (r := rListS K) call_list_of (by rfl) T.z_list (by decide +kernel) (pa_cons (pv 2) pa_nil)) rfl))))))), ?_⟩
  try dsimp only [cxOf]
  refine x_if (b := false) e (EvT.is (b := !true) ?_ rfl) (fun z => nomatch z) fun _ F1 H1 g1 => ?_
  · apply et_not
    apply et_B
    apply Ev.is
    · walk_at "ev"
    · rw [decide_eq_true (by omega), decide_eq_true (by omega)] <;> rfl
  walk_at "n"
  refine x_if (b := false) g1.fh (EvT.is (b := false || false) ?_ rfl) (fun z => nomatch z) fun _ F2 H2 g2 => ?_
  · refine et_or (EvT.is (b := !true) (et_not (et_B ?_)) rfl) fun _ => EvT.is (b := !true) (et_not (et_test ?_)) rfl
    · walk_at "ev"
    · apply Ev.is
      · walk_at "ev"
      · rw [decide_eq_true (by omega), decide_eq_true (by omega)] <;> rfl
  walk_at "n"
  refine x_if (b := false) g2.fh (EvT.is (b := !true) (et_not (et_B ?_)) rfl) (fun z => nomatch z) fun _ F3 H3 g3 => ?_
  · refine (ev_all (ev_lcm (R := rTup rNat) (fun _ => true) (ev_var rfl (by walk_at "rp")) (by omega) (fun v => rfl) ?_)).is (List.all_eq_true.mpr fun b hb => ?_)
    · intro i x v F1 H1 hx g r
      have := t.h4 x (mem_of_at hx)
      refine ev_call2 (ev_var rfl r) (ev_var rfl rfl) ⟨this, by omega⟩
    · obtain ⟨x, hx, rfl⟩ := List.mem_map.mp hb
      rfl
  walk_at "n"
  refine x_fld g3.fh (ev_var rfl (show rInt _ _ (t.many : Int) from rfl)) (ev_var rfl (show rRef _ _ a from rfl)) (g3.hx _ _ (g2.hx _ _ (g1.hx _ _ ha))) T.cl_Turns T.na_Turns_many (by decide) fun v F4 H4 g4 r4 h4 => ?_
  cases (show v = _ from r4)
  have g := (g1.trans g2).trans (g3.trans g4)
  have f4 : F4 a = none := g.nn ha fa
  have gg : Gr (El.M1 a) F H F4 (upd H4 a (.ins T.C_Turns dx (putF "many" (V.int t.many) []))) := g.up.set' f4 (.inr rfl)
  walk_at "n"
  refine x_fld gg.fh (ev_listL (ev_var rfl (by walk_at "rp"))) (ev_var rfl (show rRef _ _ a from rfl)) upd_same T.cl_Turns T.na_Turns_maps (by show 1 < 1000; decide) fun v F5 H5 g5 r5 h5 => ?_
  have g6 := (gg.trans g5.up).set' (o := .ins T.C_Turns dx (putF "maps" v (putF "many" (V.int t.many) []))) (g5.nn upd_same f4) (.inr rfl)
  exact k _ _ (g6.frz upd_same fa (.inr rfl)) ⟨a, dx, v, rfl, upd_same, Mn.mono (Ex.frz g6.fh upd_same (g5.nn upd_same f4)) r5⟩

abbrev sp_Turns_len (T : Tx K mg) : Sp := Sp1 (rTurns T.C_Turns) (fun _ => True) rNat (fun t => t.maps.length)
theorem ok_Turns_len (T : Tx K mg) : FnOk P w K mg base CX0 1 T.a_Turns_len T.d_Turns_len ["self"] (sp_Turns_len T) := by
  refine T.F_Turns_len.ok sc_Turns_len (fun vs H Q E h => SpLen.len h) (fun cdv A outer s H vs Q E hr h => ?_)
  obtain ⟨F, v, t, rfl, e, r, -, k⟩ := h
  refine ⟨_, (by exact (pss_one (ps_ret (pe_callB (r := rLenS K) call_len_seq (by rfl) T.z_len PySem.boot_len (pa_cons (kfld K (pv 0) rfl) pa_nil))))), ?_⟩
  try dsimp only [cxOf]
  apply x_ret e
  case h => walk_at "ev"
  exact k

abbrev sp_check_signs (T : Tx K mg) : Sp := Sp2 (rTurns T.C_Turns) (rLst rNat) (fun t w => ∀ s ∈ w, s < t.maps.length) rNon (fun _ _ => ())
theorem ok_check_signs (T : Tx K mg) : FnOk P w K mg base CX0 3 T.a_check_signs T.d_check_signs ["turns", "signs"] (sp_check_signs T) := by
  refine T.F_check_signs.ok sc_check_signs (fun vs H Q E h => SpLen.len h) (fun cdv A outer s H vs Q E hr h => ?_)
  obtain ⟨F, v, w, t, xs, rfl, e, r1, r2, p, k⟩ := h
  have t3 := t.h3
  refine ⟨_, (by exact (pss_one (ps_for PassesOwn.never rfl (klist K (pv 1)) (pg_name (i := 2) sc_check_signs.nd rfl (by first | exact Or.inl rfl | exact Or.inr rfl)) (pss_one (ps_if (pt_not (pt_val (pe_call (ok_is_between T) (hr.mono (by decide)) rfl T.g_is_between T.F_is_between.kp T.b_is_between .nil pass0 (pa_cons (pv 2) (pa_cons pe_int (pa_cons (pe_op op_sub (pe_callB (call_lenOwn (ok_Turns_len T) (hr.mono (by decide)) T.m_Turns_len.at_ T.m_Turns_len.fn T.b_Turns_len pass0) (by rfl) T.z_len PySem.boot_len (pa_cons (pv 0) pa_nil)) pe_int) pa_nil)))))) (pss_one ps_never) pss_nil))))), ?_⟩
  try dsimp only [cxOf]
  refine x_forL e (ev_var rfl r2) (fun i σ' F' H' => Gr M0 F H F' H' ∧ ∃ y, σ' = [some v, some w, y]) (fun F1 H1 g => ⟨g, none, rfl⟩) ?_ ?_
  · rintro F1 e1 i x u σ' F' H' hx e2 e3 r ⟨g, y, rfl⟩
    cases (show u = _ from r)
    have hs := p x (mem_of_at hx)
    refine x_if (b := false) g.fh (EvT.is (b := !true) (et_not (et_B ?_)) rfl) (fun z => nomatch z) fun _ F3 H3 g3 => ?_
    · apply Ev.is
      · walk_at "ev"
      · rw [decide_eq_true (by omega), decide_eq_true (by omega)] <;> rfl
    walk_at "n"
    exact ⟨F3, e2.trans g3.ff, g3.fh, g.trans g3, _, rfl⟩
  · rintro σ' F' H' e1 e2 ⟨g, y, rfl⟩
    exact k _ F' H' g rfl

theorem ev_pt {σ : St} {F H : Hp} {te : TE} {α : Type} {R : Rp α} {p : α × α} (h : Ev (rPr R R) te σ F H p) : Ev (rTup R) te σ F H [p.1, p.2] := h.as fun F v ⟨a, x, y, e, h1, r1, r2⟩ => ⟨a, [x, y], e, h1, .cons r1 (.cons r2 .nil)⟩
abbrev sp_is_pair (T : Tx K mg) : Sp := Sp2 (rPr rNat rNat) rNat (fun p n => p.1 < n ∧ p.2 < n ∧ p.1 ≠ p.2 ∧ n ≤ 1000) rBl (fun _ _ => true)
theorem ok_is_pair (T : Tx K mg) : FnOk P w K mg base CX0 3 T.a_is_pair T.d_is_pair ["thing", "many"] (sp_is_pair T) := by
  refine T.F_is_pair.ok sc_is_pair (fun vs H Q E h => SpLen.len h) (fun cdv A outer s H vs Q E hr h => ?_)
  obtain ⟨F, v, w, p, n, rfl, e, r1, r2, ⟨h1, h2, h3, h4⟩, k⟩ := h
  cases (show w = _ from r2)
  have ri : ∀ F (i : Int), rInt F (.int i) i := fun F i => rfl
  have ep := fun F1 H1 (g : Gr M0 F H F1 H1) => ev_pt (σ := [some v, some (.int (n : Int)), none]) (ev_var (F := F1) (H := H1) (i := 0) (v := v) rfl (Mn.mono g.ff r1))
  refine ⟨_, (by exact (pss_cons (ps_if (PW.pt (pw_or (pt_not (pt_val (pe_callB (r := rIsi K) call_isi (by rfl) T.z_isinstance (by decide +kernel) (pa_cons (pv 0) (pa_cons (pe_bltn (v := .ty "tuple") (by rfl) T.z_tuple (by decide +kernel) rfl) pa_nil))))) (pw_or1 (pt_cmpR op_ne (pe_callB (r := rLenS K) call_len_seq (by rfl) T.z_len PySem.boot_len (pa_cons (pv 0) pa_nil)) pe_int (nomark _))))) (pss_one (ps_ret pe_bl)) pss_nil)
      (pss_one (ps_ret (pe_and (pe_callB (r := rAll K) (cr_all rfl) (by rfl) T.z_all (by decide +kernel) (pa_cons (pe_lc (own := [("place", 2)]) (g := gName 2) (tt := tYes) rfl sc_is_pair.nd (ktup K (pv 0)) (blkOk_by (own := [("place", 2)]) (N := N_is_pair) (sc := defScope s_is_pair) (by decide +kernel)) (fun _ _ _ _ _ => (pg_name (i := 2) sc_is_pair.nd rfl (by first | exact Or.inl rfl | exact Or.inr rfl))) (fun _ _ _ _ _ => pts_nil) (fun _ _ _ _ _ => (pe_call (ok_is_between T) (hr.mono (by decide)) rfl T.g_is_between T.F_is_between.kp T.b_is_between .nil pass0 (pa_cons (pv 2) (pa_cons pe_int (pa_cons (pe_op op_sub (pv 1) pe_int) pa_nil)))))) pa_nil)) (pe_one (pe_cmpR op_ne (pe_ix (r := rIxT K) ix_tup (pv 0) pe_int (fun _ _ => rfl)) (pe_ix (r := rIxT K) ix_tup (pv 0) pe_int (fun _ _ => rfl)) (nomark _)))))))), ?_⟩
  walk_at "n"
  refine x_if (b := false) e (EvT.is (et_or (et_not (et_B (ev_isTup (ep F H (.refl e))))) fun _ => et_test (ev_neI (ev_lenT (ep F H (.refl e))) ev_int)) (by simp)) (fun z => nomatch z) fun _ F1 H1 g1 => ?_
  walk_at "n"
  have ep1 := ep F1 H1 g1
  refine x_ret g1.fh (Ev.is (x' := true) (ev_andV (ev_all (ev_lcTm (R := rNat) (S := rBl) (fun _ => true) ep1 (by show 2 ≤ 1000000; omega) (fun v => rfl) fun i x v F2 H2 hx g r => ?_)) fun _ => ev_neI (ev_ixT (x := p.1) ep1 ev_int (atI_natL (n := 0) rfl)).nat (ev_ixT (x := p.2) ep1 ev_int (atI_natL (n := 1) rfl)).nat) ?_) fun v' F2 H2 g2 r => k v' F2 H2 (g1.trans g2) r
  · have hxn : x < n := by
      rcases List.mem_cons.mp (mem_of_at hx) with rfl | h
      · exact h1
      · rw [List.mem_singleton.mp h]; exact h2
    refine Ev.is (ev_call3 (ev_var rfl (show rInt _ _ (x : Int) from r)) ev_int (ev_sub (ev_var rfl (ri _ (n : Int))) ev_int) trivial) ?_
    rw [decide_eq_true (by omega), decide_eq_true (by omega)]; rfl
  · rw [decide_eq_false (by omega)]
    rfl
abbrev sp_above (T : Tx K mg) : Sp := Sp2 (rLst (rPr rNat rNat)) rNat (fun ps n => n ≤ 1000 ∧ ps.length ≤ 100 ∧ ∀ p ∈ ps, p.1 < n ∧ p.2 < n) (rLst rDct) (fun ps n => aboveM n ps)
theorem ok_above (T : Tx K mg) : FnOk P w K mg base CX0 1 T.a_above T.d_above ["pairs", "many"] (sp_above T) := by
  refine T.F_above.ok sc_above (fun vs H Q E h => SpLen.len h) (fun cdv A outer s H vs Q E hr h => ?_)
  obtain ⟨F, v, w, ps, n, rfl, e, r1, r2, ⟨hn, hps, hp⟩, k⟩ := h
  cases (show w = _ from r2)
  have ri : ∀ F (i : Int), rInt F (.int i) i := fun F i => rfl
  have rn : ∀ F (i : Nat), rNat F (.int (i : Int)) i := fun F i => rfl
  have hfu : fuelM n ps ≤ 101100 := by
    unfold fuelM
    have : n * (ps.length + 1) ≤ 1000 * 101 := Nat.mul_le_mul hn (by omega)
    omega
  refine ⟨_, (by exact (pss_cons (ps_setLc (i := 2) (own := [("place", 3)]) (g := gName 3) (tt := tYes) rfl sc_above.nd rfl rfl (sw_true rfl rfl rfl (by decide +kernel)) (pi_range1 rfl T.z_range (pa_cons (pv 1) pa_nil)) (blkOk_by (own := [("place", 3)]) (N := N_above) (sc := defScope s_above) (by decide +kernel)) (fun _ _ _ _ _ => (pg_name (i := 3) sc_above.nd rfl (by first | exact Or.inl rfl | exact Or.inr rfl))) (fun _ _ _ _ _ => pts_nil) (fun _ _ _ _ _ => (pe_lst pa_nil)))
      (pss_cons (ps_for PassesOwn.never rfl (klist K (pv 0)) (kptup K (n := 2) rfl (pgs_cons (pg_name (i := 4) sc_above.nd rfl (by first | exact Or.inl rfl | exact Or.inr rfl)) (pgs_cons (pg_name (i := 5) sc_above.nd rfl (by first | exact Or.inl rfl | exact Or.inr rfl)) pgs_nil))) (pss_one (ps_expr (kbm K PySem.F.plainAttrs_list PySem.F.slot_list_append PySem.F.type_list_append mt_append (pe_ix (r := rIxL K) ix_list (pv 2) (pv 4) (fun _ _ => rfl)) (pa_cons (pv 5) pa_nil)))))
      (pss_cons (ps_set (i := 6) sc_above.nd rfl (Or.inl rfl) (pe_lst pa_nil))
      (pss_cons (ps_for PassesOwn.never rfl (pi_range1 rfl T.z_range (pa_cons (pv 1) pa_nil)) (pg_name (i := 3) sc_above.nd rfl (by first | exact Or.inl rfl | exact Or.inr rfl)) (pss_cons (ps_set (i := 7) sc_above.nd rfl (Or.inl rfl) (pe_callTy (r := rListS K) call_list_of (by rfl) T.z_list (by decide +kernel) (pa_cons (pe_ix (r := rIxL K) ix_list (pv 2) (pv 3) (fun _ _ => rfl)) pa_nil)))
      (pss_cons (ps_set (i := 8) sc_above.nd rfl (Or.inl rfl) pe_dnewK)
      (pss_cons (ps_while PassesOwn.never (pt_cmpR (r := rNeD K) (op_neD hr.units) (pv 7) (pe_lst pa_nil) (nomark _)) (pss_cons (ps_set (i := 9) sc_above.nd rfl (Or.inl rfl) (kbm0 K PySem.F.plainAttrs_list PySem.F.slot_list_pop PySem.F.type_list_pop mt_pop (pv 7)))
      (pss_one (ps_if (pt_cmp (pc_dnotin (hu_of hr) (pv 9) (pv 8))) (pss_cons (ps_dput (hu_of hr) (pv 8) (pv 9) pe_bl rfl)
      (pss_one (ps_expr (kbm K PySem.F.plainAttrs_list PySem.F.slot_list_extend PySem.F.type_list_extend mt_extend (pv 7) (pa_cons (pe_ix (r := rIxL K) ix_list (pv 2) (pv 9) (fun _ _ => rfl)) pa_nil))))) pss_nil))))
      (pss_one (ps_expr (kbm K PySem.F.plainAttrs_list PySem.F.slot_list_append PySem.F.type_list_append mt_append (pv 6) (pa_cons (pv 8) pa_nil))))))))
      (pss_one (ps_ret (pv 6)))))))), ?_⟩
  walk_at "n"
  refine x_lists (n := n) e (ev_var rfl (ri _ (n : Int))) (by omega) (fun v => rfl) fun o as F1 H1 g1 hal ho0 fo1 ho1 nd hb => ?_
  walk_at "n"
  refine x_forLP g1.fh (ev_var rfl (Mn.mono g1.ff r1))
    (fun i σ' F' H' => Gr M0 F H F' H' ∧ F' o = none ∧ (∀ b ∈ as, F' b = none) ∧ H' o = some (.lst (as.map V.ref)) ∧ (∀ (j : Nat) b, as[j]? = some b → H' b = some (.lst (((onM n (ps.take i)).getD j []).map fun x : Nat => V.int (x : Int)))) ∧ ∃ y1 y2 y3 y4 y5 y6 y7, σ' = [some v, some (.int (n : Int)), some (.ref o), y1, y2, y3, y4, y5, y6, y7])
    (fun F2 H2 g2 => ⟨g1.trans g2, g2.nn ho1 fo1, fun b h => g2.nn (hb b h).2.2.1 (hb b h).2.1, g2.hx _ _ ho1, fun j b hj => ?_, _, _, _, _, _, _, _, rfl⟩) ?_ ?_
  · have hj2 : j < n := by rw [← hal]; exact (List.getElem?_eq_some_iff.mp hj).1
    rw [g2.hx _ _ (hb b (mem_of_at hj)).2.2.1, on_get hj2]
    rfl
  · rintro F2 e2 i p u1 u2 σ' F' H' hx e3 e4 rx ry ⟨g, fo, fas, hO, hA, y1, y2, y3, y4, y5, y6, y7, rfl⟩
    cases (show u1 = _ from rx)
    cases (show u2 = _ from ry)
    obtain ⟨p1, p2⟩ := hp p (mem_of_at hx)
    obtain ⟨b, hb1⟩ : ∃ b, as[p.1]? = some b := ⟨_, List.getElem?_eq_getElem (by rw [hal]; exact p1)⟩
    have hbm := mem_of_at hb1
    obtain ⟨hb0, _, _, hbo⟩ := hb b hbm
    have hcur := hA p.1 b hb1
    have hle := on_le (n := n) (ps := ps.take i) (x := p.1)
    have htl : (ps.take i).length ≤ ps.length := by rw [List.length_take]; omega
    walk_at "n"
    refine x_app (R := rNat) (x := p.2) (l := b) e4 (ev_ixM (R := rRef) (x := b) (ev_var rfl (show rRef _ _ o from rfl)) (ev_var rfl (ri _ (p.1 : Int))) hO (atI_natL (n := p.1) (by rw [List.getElem?_map, hb1]; rfl)) rfl) hcur (ev_var rfl (rn _ p.2)) (by rw [List.length_map, sizeLine_eq]; omega) fun v5 F5 H5 g5 r5 h5 => ?_
    cases (show v5 = _ from r5)
    have fb5 := g5.nn hcur (fas b hbm)
    have G5 := (g.trans g5).set' (o := .lst ((((onM n (ps.take i)).getD p.1 []).map fun x : Nat => V.int (x : Int)) ++ [.int (p.2 : Int)])) fb5 (.inl hb0)
    refine ⟨F5, e3.trans g5.ff, G5.fh, G5, g5.nn hO fo, fun b' h' => ?_, by rw [upd_ne hbo.symm]; exact g5.hx _ _ hO, fun j b' hj => ?_, _, _, _, _, _, _, _, rfl⟩
    · obtain ⟨q, hq⟩ := List.mem_iff_getElem?.mp h'
      exact g5.nn (hA q b' hq) (fas b' h')
    · have hj2 : j < n := by rw [← hal]; exact (List.getElem?_eq_some_iff.mp hj).1
      rw [on_step hx hj2]
      by_cases hjp : p.1 = j
      · subst hjp
        rw [hb1] at hj
        cases hj
        rw [if_pos rfl, upd_same, List.map_append]
        rfl
      · have hbb : b' ≠ b := fun z => by
          subst z
          exact hjp ((List.getElem?_inj (List.getElem?_eq_some_iff.mp hb1).1 nd).mp (hb1.trans hj.symm))
        rw [if_neg hjp, upd_ne hbb]
        exact g5.hx _ _ (hA j b' hj)
  · rintro σ' F' H' e1 e2 ⟨g, fo, fas, hO, hA, y1, y2, y3, y4, y5, y6, y7, rfl⟩
    rw [List.take_length] at hA
    obtain ⟨Fz, gz, ez, kz⟩ := Gr.frzs e (as := o :: as) g fun b hb' => by
      rcases List.mem_cons.mp hb' with rfl | hb'
      · exact ⟨by rw [hO]; exact (fun z => nomatch z), ho0⟩
      · obtain ⟨q, hq⟩ := List.mem_iff_getElem?.mp hb'
        exact ⟨by rw [hA q b hq]; exact (fun z => nomatch z), (hb b hb').1⟩
    have ron : rLst (rLst rNat) Fz (.ref o) (onM n ps) := ⟨o, _, rfl, by rw [kz o List.mem_cons_self, hO], paired_of (by rw [List.length_map, hal, on_len]) fun i a b ha hb' => by
      rw [List.getElem?_map] at ha
      cases q : as[i]? with
      | none => rw [q] at ha; cases ha
      | some c =>
        rw [q] at ha
        cases ha
        have hi : i < n := by rw [← hal]; exact (List.getElem?_eq_some_iff.mp q).1
        rw [on_at hi] at hb'
        cases hb'
        exact ⟨c, _, rfl, by rw [kz c (List.mem_cons_of_mem _ (mem_of_at q)), hA i c q], nats_P _ _⟩⟩
    walk_at "n"
    refine x_nil gz.fh fun f hf => ?_
    have ff0 : Fz f = none := gz.fh.free hf
    have hf0 : H f = none := Ex.free gz.hx hf
    have G0 : Gr M0 F H Fz (upd H' f (.lst [])) := gz.trans (.loc gz.fh hf)
    walk_at "n"
    refine x_forR (n := n) G0.fh (ev_var rfl (ri _ (n : Int))) (by omega)
      (fun i σ' F' H' => Gr M0 F H F' H' ∧ F' f = none ∧ (∃ vs, H' f = some (.lst vs) ∧ Paired (rDct F') vs ((aboveM n ps).take i)) ∧ ∃ y1 y2 y3 y4 y5 y6, σ' = [some v, some (.int (n : Int)), some (.ref o), y1, y2, y3, some (.ref f), y4, y5, y6])
      (fun F2 H2 g2 => ⟨G0.trans g2, g2.nn upd_same ff0, ⟨[], g2.hx _ _ upd_same, .nil⟩, _, _, _, _, _, _, rfl⟩) ?_ ?_
    · rintro F2 e2 i σ' F' H' hi e3 e4 ⟨g, ff, ⟨vs, hF, pv⟩, y1, y2, y3, y4, y5, y6, rfl⟩
      have hlv : vs.length = i := by rw [pv.length, List.length_take, above_len]; omega
      walk_at "n"
      refine x_listM (R := rNat) (xs := (onM n ps).getD i []) e4 (ev_ixL (ev_var rfl (Mn.mono (e2.trans e3) ron)) (ev_var rfl (ri _ (i : Int))) (atI_natL (on_at hi))) fun ws l F5 H5 g5 p5 hl5 => ?_
      have ews := nats_eq p5
      subst ews
      have fl5 : F5 l = none := g5.fh.free hl5
      have hl0 : H l = none := Ex.free (g.trans g5).hx hl5
      have hfl : f ≠ l := fun z => by subst z; rw [g5.hx _ _ hF] at hl5; cases hl5
      have G5 : Gr M0 F H F5 (upd H5 l (.lst (((onM n ps).getD i []).map fun x : Nat => V.int (x : Int)))) := (g.trans g5).trans (.loc g5.fh hl5)
      walk_at "n"
      refine x_dict fun d hd => ?_
      have hdl : d ≠ l := fun z => by subst z; rw [upd_same] at hd; cases hd
      have hdf : d ≠ f := fun z => by subst z; rw [upd_ne hfl, g5.hx _ _ hF] at hd; cases hd
      have fd5 : F5 d = none := G5.fh.free hd
      have hd0 : H d = none := Ex.free G5.hx hd
      have G6 := G5.trans (.loc G5.fh hd (o := .dK (kvsOf [])))
      walk_at "n"
      refine x_while G6.fh (fun m σ' F' H' => ∃ ws r, dfs (onM n ps) m ws r = dfs (onM n ps) (fuelM n ps) ((onM n ps).getD i []) [] ∧ (measM n ps.length ws r ≤ m ∧ m ≤ fuelM n ps) ∧ r.Nodup ∧ (∀ y ∈ r, y < n) ∧ (∀ y ∈ ws, y < n) ∧ Gr M0 F H F' H' ∧ F' l = none ∧ H' l = some (.lst (ws.map fun x : Nat => V.int (x : Int))) ∧ F' d = none ∧ H' d = some (.dK (kvsOf r)) ∧
          F' f = none ∧ H' f = some (.lst vs) ∧ Paired (rDct F') vs ((aboveM n ps).take i) ∧ rLst (rLst rNat) F' (.ref o) (onM n ps) ∧ ∃ y1 y2 y3, σ' = [some v, some (.int (n : Int)), some (.ref o), some (.int (i : Int)), y1, y2, some (.ref f), some (.ref l), some (.ref d), y3]) (fuelM n ps) ?_
        (fun m σ' F' H' => match H' l with | some (.lst []) => false | _ => true) ?_ ?_ ?_ ?_
      · refine ⟨(onM n ps).getD i [], [], rfl, ⟨?_, Nat.le_refl _⟩, List.nodup_nil, (fun _ h => nomatch h), fun y hy => on_mem hp hy, G6, fl5, by rw [upd_ne hdl.symm, upd_same], fd5, upd_same, g5.nn hF ff, by rw [upd_ne hdf.symm, upd_ne hfl]; exact g5.hx _ _ hF, Paired.up g5.ff pv, Mn.mono (e2.trans (e3.trans g5.ff)) ron, _, _, _, rfl⟩
        unfold measM fuelM
        have := on_le (n := n) (ps := ps) (x := i)
        show (n - 0) * _ + _ ≤ _
        rw [Nat.sub_zero]
        omega
      · rintro m σ' F' H' e1 e2 ⟨ws, r, h1, h2, h3, h4, h5, g, fl, hL, fd, hD, ff, hF, pv, ro, y1, y2, y3, rfl⟩
        refine EvT.is (et_test (ev_neNilM (ev_var rfl (show rRef _ _ l from rfl)) hL)) ?_
        rw [hL]
        cases ws with
        | nil => rfl
        | cons a ws => rfl
      · rintro m σ' F' H' F2' H2' g2 ⟨ws, r, h1, h2, h3, h4, h5, g, fl, hL, fd, hD, ff, hF, pv, ro, y1, y2, y3, rfl⟩
        exact ⟨ws, r, h1, h2, h3, h4, h5, g.trans g2, g2.nn hL fl, g2.hx _ _ hL, g2.nn hD fd, g2.hx _ _ hD, g2.nn hF ff, g2.hx _ _ hF, Paired.up g2.ff pv, Mn.mono g2.ff ro, _, _, _, rfl⟩
      · rintro m σ' F' H' F8 H8 ef g2 hb ⟨ws, r, h1, ⟨h2, h2'⟩, h3, h4, h5, g, fl, hL, fd, hD, ff, hF, pv, ro, y1, y2, y3, rfl⟩ _
        have hne : ws ≠ [] := fun z => by
          subst z
          rw [hL] at hb
          cases hb
        obtain ⟨w0, one, rfl⟩ : ∃ w0 one, ws = w0 ++ [one] := by
          rcases List.eq_nil_or_concat ws with h | ⟨w0, one, h⟩
          · exact absurd h hne
          · exact ⟨w0, one, by rw [h, List.concat_eq_append]⟩
        obtain ⟨m', rfl⟩ : ∃ m', m = m' + 1 := ⟨m - 1, by
          have : 1 ≤ measM n ps.length (w0 ++ [one]) r := by unfold measM; rw [List.length_append]; show 1 ≤ _ + (_ + 1); omega
          omega⟩
        have hone : one < n := h5 one (List.mem_append_right _ List.mem_cons_self)
        have hw0 : ∀ y ∈ w0, y < n := fun y hy => h5 y (List.mem_append_left _ hy)
        have hL8 := g2.hx _ _ hL
        have hD8 := g2.hx _ _ hD
        have hF8 := g2.hx _ _ hF
        have fl8 := g2.nn hL fl
        have fd8 := g2.nn hD fd
        have ff8 := g2.nn hF ff
        have ro8 := Mn.mono g2.ff ro
        have pv8 := Paired.up g2.ff pv
        have G8 := (g.trans g2).set' (o := .lst (w0.map fun x : Nat => V.int (x : Int))) fl8 (.inl hl0)
        have hrl := nodup_lt h3 h4
        walk_at "n"
        refine x_pop (l := l) (y := .int (one : Int)) rfl hL8 ?_ ?_
        · rw [List.map_append, List.length_append]
          show (_ ++ [V.int (one : Int)])[_ + 1 - 1]? = _
          rw [Nat.add_sub_cancel, List.getElem?_append_right (Nat.le_refl _), Nat.sub_self]
          rfl
        rw [show ((w0 ++ [one]).map fun x : Nat => V.int (x : Int)).dropLast = w0.map fun x : Nat => V.int (x : Int) by rw [List.map_append]; exact List.dropLast_concat]
        have hD8' : upd H8 l (.lst (w0.map fun x : Nat => V.int (x : Int))) d = some (.dK (kvsOf r)) := by rw [upd_ne hdl]; exact hD8
        have hF8' : upd H8 l (.lst (w0.map fun x : Nat => V.int (x : Int))) f = some (.lst vs) := by rw [upd_ne hfl]; exact hF8
        walk_at "n"
        refine x_if G8.fh (et_B (ev_dnotM (k := one) (ev_var rfl (rn _ one)) (ev_var rfl (show rRef _ _ d from rfl)) hD8')) (fun hbb F9 H9 g9 => ?_) (fun hbb F9 H9 g9 => ?_)
        · have hnew : one ∉ r := fun z => by rw [decide_eq_true z] at hbb; cases hbb
          have hnd : (r ++ [one]).Nodup := List.nodup_append.mpr ⟨h3, by simp, fun x hx y hy => by
            rw [List.mem_singleton.mp hy]
            intro z
            rw [z] at hx
            exact hnew hx⟩
          have hall : ∀ y ∈ r ++ [one], y < n := fun y hy => by
            rcases List.mem_append.mp hy with h | h
            · exact h4 y h
            · rw [List.mem_singleton.mp h]; exact hone
          have hr1 := nodup_lt hnd hall
          rw [List.length_append] at hr1
          have hr2 : r.length < n := hr1
          have hL9 := g9.hx _ _ (upd_same (H := H8) (a := l) (o := .lst (w0.map fun x : Nat => V.int (x : Int))))
          have hD9 := g9.hx _ _ hD8'
          have hF9 := g9.hx _ _ hF8'
          have fl9 := g9.nn upd_same fl8
          have fd9 := g9.nn hD8' fd8
          have ff9 := g9.nn hF8' ff8
          walk_at "n"
          refine x_dput (d := d) (ks := r) (k := one) g9.fh ev_bl (ev_var rfl (show rRef _ _ d from rfl)) (ev_var rfl (rn _ one)) hD9 hnew (by rw [sizeLine_eq]; omega) fun F10 H10 g10 h10 => ?_
          have fd10 := g10.nn hD9 fd9
          have fl10 := g10.nn hL9 fl9
          have ff10 := g10.nn hF9 ff9
          have G10 := ((G8.trans g9).trans g10).set' (o := .dK (kvsOf (r ++ [one]))) fd10 (.inl hd0)
          have hL10 : upd H10 d (.dK (kvsOf (r ++ [one]))) l = some (.lst (w0.map fun x : Nat => V.int (x : Int))) := by rw [upd_ne hdl.symm]; exact g10.hx _ _ hL9
          have hF10 : upd H10 d (.dK (kvsOf (r ++ [one]))) f = some (.lst vs) := by rw [upd_ne hdf.symm]; exact g10.hx _ _ hF9
          have g910 := g9.ff.trans g10.ff
          have hmore := on_le (n := n) (ps := ps) (x := one)
          have hmeas := meas_new (n := n) (L := ps.length) (w := w0) (one := one) hmore hr2
          have hwz : w0.length ≤ measM n ps.length (w0 ++ [one]) r := by unfold measM; rw [List.length_append]; show _ ≤ _ + (_ + 1); omega
          walk_at "n"
          refine x_ext (R := rNat) (zs := (onM n ps).getD one []) G10.fh (ev_var rfl (show rRef _ _ l from rfl)) hL10 (ev_ixL (ev_var rfl (Mn.mono g910 ro8)) (ev_var rfl (ri _ (one : Int))) (atI_natL (on_at hone))) ?_ fun zs F11 H11 g11 p11 h11 => ?_
          · rw [List.length_map, sizeLine_eq]; omega
          have ezs := nats_eq p11
          subst ezs
          have fl11 := g11.nn hL10 fl10
          have G11 := (G10.trans g11).set' (o := .lst ((w0.map fun x : Nat => V.int (x : Int)) ++ ((onM n ps).getD one []).map fun x : Nat => V.int (x : Int))) fl11 (.inl hl0)
          refine ⟨F11, m', ef.trans (g2.ff.trans (g910.trans g11.ff)), G11.fh, by omega, w0 ++ (onM n ps).getD one [], r ++ [one], ?_, ⟨by omega, by omega⟩, hnd, hall, fun y hy => ?_, G11, fl11, by rw [upd_same, List.map_append], g11.nn upd_same fd10, by rw [upd_ne hdl]; exact g11.hx _ _ upd_same, g11.nn hF10 ff10, by rw [upd_ne hfl]; exact g11.hx _ _ hF10, Paired.up (g910.trans g11.ff) pv8, Mn.mono (g910.trans g11.ff) ro8, _, _, _, rfl⟩
          · rw [← dfs_new hnew]; exact h1
          · rcases List.mem_append.mp hy with h | h
            · exact hw0 y h
            · exact on_mem hp h
        · have hold : one ∈ r := by
            cases q : decide (one ∈ r) with
            | true => exact of_decide_eq_true q
            | false => rw [q] at hbb; cases hbb
          have hmeas := meas_old (n := n) (L := ps.length) (w := w0) (r := r) (one := one)
          walk_at "n"
          refine ⟨F9, m', ef.trans (g2.ff.trans g9.ff), g9.fh, by omega, w0, r, by rw [← dfs_old hold]; exact h1, ⟨by omega, by omega⟩, h3, h4, hw0, G8.trans g9, g9.nn upd_same fl8, g9.hx _ _ upd_same, g9.nn hD8' fd8, g9.hx _ _ hD8', g9.nn hF8' ff8, g9.hx _ _ hF8', Paired.up g9.ff pv8, Mn.mono g9.ff ro8, _, _, _, rfl⟩
      · rintro m σ' F' H' F8 H8 ef g2 hb ⟨ws, r, h1, ⟨h2, h2'⟩, h3, h4, h5, g, fl, hL, fd, hD, ff, hF, pv, ro, y1, y2, y3, rfl⟩ _
        have hnil : ws = [] := by
          cases ws with
          | nil => rfl
          | cons a ws => rw [hL] at hb; cases hb
        subst hnil
        rw [dfs_nil] at h1
        have hD8 := g2.hx _ _ hD
        have hF8 := g2.hx _ _ hF
        have fd8 := g2.nn hD fd
        have ff8 := g2.nn hF ff
        have gf := (g.trans g2).frz hD8 (e.free hd0) (.inl hd0)
        have ffz : upd F8 d (.dK (kvsOf r)) f = none := by rw [upd_ne hdf.symm]; exact ff8
        have exz : Ex F8 (upd F8 d (.dK (kvsOf r))) := Ex.new fd8
        walk_at "n"
        refine x_app (R := rDct) (x := r) gf.fh (ev_var rfl (show rRef _ _ f from rfl)) hF8 (ev_var rfl (show rDct _ _ r from ⟨d, rfl, upd_same⟩)) (by rw [hlv, sizeLine_eq]; omega) fun v9 F9 H9 g9 r9 h9 => ?_
        have ff9 := g9.nn hF8 ffz
        have G9 := (gf.trans g9).set' (o := .lst (vs ++ [v9])) ff9 (.inl hf0)
        refine ⟨F9, e3.trans (g5.ff.trans (ef.trans (g2.ff.trans (exz.trans g9.ff)))), G9.fh, G9, ff9, ⟨_, upd_same, ?_⟩, _, _, _, _, _, _, rfl⟩
        rw [List.take_add_one, above_get hi, ← h1]
        exact (Paired.up (g2.ff.trans (exz.trans g9.ff)) pv).snoc r9
    · rintro σ' F' H' e1 e2 ⟨g, ff, ⟨vs, hF, pv⟩, y1, y2, y3, y4, y5, y6, rfl⟩
      rw [List.take_of_length_le (by rw [above_len]; exact Nat.le_refl _)] at pv
      have gf := g.frz hF (Ex.free g.ff ff) (.inl hf0)
      walk_at "n"
      exact x_ret gf.fh (ev_var rfl (show rLst rDct _ _ _ from ⟨f, vs, rfl, upd_same, Paired.up (Ex.new ff) pv⟩)) fun v' F2 H2 g2 r2 => k v' F2 H2 (gf.trans g2) r2

instance {T : Tx K mg} : IsF (rOrder T.C_Order) K "higher" (rLst rDct) id := fld_higher T.cl_Order T.na_Order_higher
abbrev sp_Order_init (T : Tx K mg) : Sp := SpOrder T.C_Order
theorem ok_Order_init (T : Tx K mg) : FnOk P w K mg base CX0 4 T.a_Order_init T.d_Order_init ["self", "many", "pairs"] (sp_Order_init T) := by
  refine T.F_Order_init.ok sc_Order_init (fun vs H Q E h => SpLen.len h) (fun cdv A outer s H vs Q E hr h => ?_)
  obtain ⟨F, a, dx, l, n, ps, rfl, e, fa, ha, rl, ⟨h0, h1, h2, h3, h4⟩, k⟩ := h
  have ri : ∀ F (i : Int), rInt F (.int i) i := fun F i => rfl
  have rn : ∀ F (i : Nat), rNat F (.int (i : Int)) i := fun F i => rfl
  have va : ∀ F, rRef F (.ref a) a := fun F => rfl
  refine ⟨_, (by exact (pss_cons (ps_if (pt_not (pt_val (pe_call (ok_is_between T) (hr.mono (by decide)) rfl T.g_is_between T.F_is_between.kp T.b_is_between .nil pass0 (pa_cons (pv 1) (pa_cons pe_int (pa_cons (pe_glob (v := .int 32) rfl T.c_MOST_PLACES_orders ⟨_, rfl⟩) pa_nil)))))) (pss_one ps_never) pss_nil)
      (pss_cons (ps_if (PW.pt (pw_or (pt_not (pt_val (pe_callB (r := rIsi K) call_isi (by rfl) T.z_isinstance (by decide +kernel) (pa_cons (pv 2) (pa_cons (pe_bltn (v := .ty "list") (by rfl) T.z_list (by decide +kernel) rfl) pa_nil))))) (pw_or1 (pt_not (pt_val (pe_callB (r := rAll K) (cr_all rfl) (by rfl) T.z_all (by decide +kernel) (pa_cons (pe_lc (own := [("pair", 3)]) (g := gName 3) (tt := tYes) rfl sc_Order_init.nd (klist K (pv 2)) (blkOk_by (own := [("pair", 3)]) (N := N_Order_init) (sc := defScope s_Order_init) (by decide +kernel)) (fun _ _ _ _ _ => (pg_name (i := 3) sc_Order_init.nd rfl (by first | exact Or.inl rfl | exact Or.inr rfl))) (fun _ _ _ _ _ => pts_nil) (fun _ _ _ _ _ => (pe_call (ok_is_pair T) (hr.mono (by decide)) rfl T.g_is_pair T.F_is_pair.kp T.b_is_pair .nil pass0 (pa_cons (pv 3) (pa_cons (pv 1) pa_nil))))) pa_nil))))))) (pss_one ps_never) pss_nil)
      (pss_cons (kset K (pv 0) (pe_call (ok_above T) (hr.mono (by decide)) rfl T.g_above T.F_above.kp T.b_above .nil pass0 (pa_cons (pv 2) (pa_cons (pv 1) pa_nil))) rfl)
      (pss_one (ps_if (pt_val (pe_callB (r := rAny K) (cr_any rfl) (by rfl) T.z_any (by decide +kernel) (pa_cons (pe_lc (own := [("place", 4)]) (g := gName 4) (tt := tYes) rfl sc_Order_init.nd (pi_range1 rfl T.z_range (pa_cons (pv 1) pa_nil)) (blkOk_by (own := [("place", 4)]) (N := N_Order_init) (sc := defScope s_Order_init) (by decide +kernel)) (fun _ _ _ _ _ => (pg_name (i := 4) sc_Order_init.nd rfl (by first | exact Or.inl rfl | exact Or.inr rfl))) (fun _ _ _ _ _ => pts_nil) (fun _ _ _ _ _ => (pe_cmp (pc_din (hu_of hr) (pv 4) (pe_ix (r := rIxL K) ix_list (kfld K (pv 0) rfl) (pv 4) (fun _ _ => rfl)))))) pa_nil))) (pss_one ps_never) pss_nil)))))), ?_⟩
  walk_at "n"
  refine x_if (b := false) e (EvT.is (b := !true) (et_not (et_B (Ev.is (ev_call3 (ev_var rfl (ri _ (n : Int))) ev_int ev_int trivial) ?_))) rfl) (fun z => nomatch z) fun _ F1 H1 g1 => ?_
  · rw [decide_eq_true (by omega), decide_eq_true (by omega)]; rfl
  walk_at "n"
  refine x_if (b := false) g1.fh (EvT.is (et_or (et_not (et_B (ev_isLst (ev_var rfl (Mn.mono g1.ff rl))))) fun _ => et_not (et_B (ev_all (ev_lcm (R := rPr rNat rNat) (S := rBl) (fun _ => true) (ev_var rfl (Mn.mono g1.ff rl)) (by omega) (fun v => rfl) fun i p v F2 H2 hx g r => ev_call2 (ev_var rfl r) (ev_var rfl (rn _ n)) ?_)))) ?_) (fun z => nomatch z) fun _ F2 H2 g2 => ?_
  · obtain ⟨q1, q2, q3⟩ := h3 p (mem_of_at hx)
    exact ⟨q1, q2, q3, by omega⟩
  · have : ((ps.map fun _ => true).all id) = true := List.all_eq_true.mpr fun b hb => by obtain ⟨_, _, rfl⟩ := List.mem_map.mp hb; rfl
    rw [this]; rfl
  have g12 := g1.trans g2
  walk_at "n"
  refine x_fld g2.fh (ev_call2 (x := ps) (y := n) (ev_var rfl (Mn.mono g12.ff rl)) (ev_var rfl (rn _ n)) ⟨by omega, h2, fun p hp => ⟨(h3 p hp).1, (h3 p hp).2.1⟩⟩) (ev_var rfl (va _)) (g12.hx _ _ ha) T.cl_Order T.na_Order_higher (by decide) fun v F4 H4 g4 r4 h4' => ?_
  have g := g12.trans g4
  have f4 : F4 a = none := g.nn ha fa
  have gg : Gr (El.M1 a) F H F4 (upd H4 a (.ins T.C_Order dx (putF "higher" v []))) := g.up.set' f4 (.inr rfl)
  walk_at "n"
  refine x_if (b := false) gg.fh (EvT.is (et_B (ev_any (ev_lcRm (S := rBl) (fun p => decide (p ∈ (aboveM n ps).getD p [])) (ev_var rfl (ri _ (n : Int))) (by omega) (fun v => rfl) fun i F5 H5 hi g5 => ev_din (ev_var rfl (rn _ i)) (ev_ixL (ev_fldM (S := rLst rDct) (ev_var rfl (va _)) (g5.hx _ _ upd_same) T.cl_Order T.na_Order_higher rfl (Mn.mono g5.ff r4)) (ev_var rfl (ri _ (i : Int))) (atI_natL (getD_at (by rw [above_len]; exact hi))))))) ?_) (fun z => nomatch z) fun _ F6 H6 g6 => ?_
  · refine List.any_eq_false.mpr fun b hb => ?_
    obtain ⟨p, hp, rfl⟩ := List.mem_map.mp hb
    have := h4 p (List.mem_range.mp hp)
    rw [decide_eq_false this]
    exact Bool.false_ne_true
  · have ga := g6.hx _ _ (upd_same (H := H4) (a := a) (o := .ins T.C_Order dx (putF "higher" v [])))
    have f6 := g6.nn upd_same f4
    have gf := (gg.trans g6.up).frz ga fa (.inr rfl)
    walk_at "n"
    exact k _ _ gf ⟨a, dx, v, rfl, upd_same, Mn.mono (g6.ff.trans (Ex.new f6)) r4⟩
abbrev sp_Order_len (T : Tx K mg) : Sp := Sp1 (rOrder T.C_Order) (fun _ => True) rNat (fun hs => hs.length)
theorem ok_Order_len (T : Tx K mg) : FnOk P w K mg base CX0 1 T.a_Order_len T.d_Order_len ["self"] (sp_Order_len T) := by
  refine T.F_Order_len.ok sc_Order_len (fun vs H Q E h => SpLen.len h) (fun cdv A outer s H vs Q E hr h => ?_)
  obtain ⟨F, v, hs, rfl, e, r, -, k⟩ := h
  refine ⟨_, (by exact (pss_one (ps_ret (pe_callB (r := rLenS K) call_len_seq (by rfl) T.z_len PySem.boot_len (pa_cons (kfld K (pv 0) rfl) pa_nil))))), ?_⟩
  walk_at "n"
  exact x_ret e (ev_lenL (ev_fld (ev_var rfl r))).toNat k
abbrev sp_Order_at_most (T : Tx K mg) : Sp := Sp3 (rOrder T.C_Order) rNat rNat (fun hs x _ => x < hs.length) rBl (fun hs x y => atMostM hs x y)
theorem ok_Order_at_most (T : Tx K mg) : FnOk P w K mg base CX0 1 T.a_Order_at_most T.d_Order_at_most ["self", "x", "y"] (sp_Order_at_most T) := by
  refine T.F_Order_at_most.ok sc_Order_at_most (fun vs H Q E h => SpLen.len h) (fun cdv A outer s H vs Q E hr h => ?_)
  obtain ⟨F, v, w, u, hs, x, y, rfl, e, r1, r2, r3, hx, k⟩ := h
  cases (show w = _ from r2)
  cases (show u = _ from r3)
  have ri : ∀ F (i : Int), rInt F (.int i) i := fun F i => rfl
  have rn : ∀ F (i : Nat), rNat F (.int (i : Int)) i := fun F i => rfl
  refine ⟨_, (by exact (pss_one (ps_ret (pe_or (pe_cmpR op_eq (pv 1) (pv 2) (nomark _)) (pe_one (pe_cmp (pc_din (hu_of hr) (pv 2) (pe_ix (r := rIxL K) ix_list (kfld K (pv 0) rfl) (pv 1) (fun _ _ => rfl))))))))), ?_⟩
  walk_at "n"
  refine x_ret e (Ev.is (ev_orV (ev_eqI (ev_var rfl (ri _ (x : Int))) (ev_var rfl (ri _ (y : Int)))) fun _ => ev_din (ev_var rfl (rn _ y)) (ev_ixL (ev_fld (ev_var rfl r1)) (ev_var rfl (ri _ (x : Int))) (atI_natL (getD_at (xs := hs) (d := []) hx)))) ?_) k
  unfold atMostM
  rw [show decide ((x : Int) = (y : Int)) = decide (x = y) from decide_eq_decide.mpr (by omega)]
abbrev sp_Order_least (T : Tx K mg) : Sp := Sp1 (rOrder T.C_Order) (fun hs => hs.length ≤ 1000) (rOpt rNat) leastM
theorem ok_Order_least (T : Tx K mg) : FnOk P w K mg base CX0 3 T.a_Order_least T.d_Order_least ["self"] (sp_Order_least T) := by
  refine T.F_Order_least.ok sc_Order_least (fun vs H Q E h => SpLen.len h) (fun cdv A outer s H vs Q E hr h => ?_)
  obtain ⟨F, v, hs, rfl, e, r, hz, k⟩ := h
  have ri : ∀ F (i : Int), rInt F (.int i) i := fun F i => rfl
  have rn : ∀ F (i : Nat), rNat F (.int (i : Int)) i := fun F i => rfl
  refine ⟨_, (by exact (pss_cons (ps_for PassesOwn.never rfl (kenum K rfl T.z_enumerate (pa_cons (kfld K (pv 0) rfl) pa_nil)) (kptup K (n := 2) rfl (pgs_cons (pg_name (i := 1) sc_Order_least.nd rfl (by first | exact Or.inl rfl | exact Or.inr rfl)) (pgs_cons (pg_name (i := 2) sc_Order_least.nd rfl (by first | exact Or.inl rfl | exact Or.inr rfl)) pgs_nil))) (pss_one (ps_if (pt_cmpR op_eq (pe_callB call_lenD (by rfl) T.z_len PySem.boot_len (pa_cons (pv 2) pa_nil)) (pe_op op_sub (pe_callB (call_lenOwn (ok_Order_len T) (hr.mono (by decide)) T.m_Order_len.at_ T.m_Order_len.fn T.b_Order_len pass0) (by rfl) T.z_len PySem.boot_len (pa_cons (pv 0) pa_nil)) pe_int) (nomark _)) (pss_one (ps_ret (pv 1))) pss_nil)))
      (pss_one (ps_ret pe_non)))), ?_⟩
  walk_at "n"
  refine x_forE e (ev_fld (ev_var rfl r)) (fun i σ' F' H' => Gr M0 F H F' H' ∧ (∀ j, j < i → decide (((hs.getD j []).length : Int) = (hs.length : Int) - 1) = false) ∧ ∃ y1 y2, σ' = [some v, y1, y2]) (fun F1 H1 g => ⟨g, fun j h => absurd h (Nat.not_lt_zero j), _, _, rfl⟩) ?_ ?_ ?_
  · rintro n σ' F' H' F2 H2 g2 ⟨g, hb, y1, y2, rfl⟩
    exact ⟨g.trans g2, hb, _, _, rfl⟩
  · rintro F1 e1 i x u σ' F' H' hx e2 e3 rx ⟨g, hb, y1, y2, rfl⟩
    have hx : hs[i]? = some x := hx
    have hi : i < hs.length := (List.getElem?_eq_some_iff.mp hx).1
    have ex : hs.getD i [] = x := by rw [List.getD_eq_getElem?_getD, hx]; rfl
    walk_at "n"
    refine x_if e3 (et_test (ev_eqI (ev_lenD (ev_var rfl rx)) (ev_sub (ev_lenOwn (ev_var rfl (Mn.mono g.ff r)) (by omega)) ev_int))) (fun hbb F4 H4 g4 => ?_) (fun hbb F4 H4 g4 => ?_)
    · have hfind : leastM hs = some i := L2.find_range _ hi (by rw [ex]; exact hbb) hb
      walk_at "n"
      exact x_ret (R := rOpt rNat) (x := some i) g4.fh (ev_someO (R := rNat) (ev_var rfl (rn F4 i))) fun v' F5 H5 g5 r5 => k v' F5 H5 (g.trans (g4.trans g5)) (by rw [hfind]; exact r5)
    · walk_at "n"
      refine ⟨F4, e2.trans g4.ff, g4.fh, g.trans g4, fun j hj => ?_, _, _, rfl⟩
      by_cases h : j = i
      · rw [h, ex]; exact hbb
      · exact hb j (by omega)
  · rintro σ' F' H' e1 e2 ⟨g, hb, y1, y2, rfl⟩
    have hfind : leastM hs = none := L2.find_range_none _ fun j hj => hb j hj
    walk_at "n"
    exact x_ret (R := rOpt rNat) (x := none) e2 ev_noneO fun v' F5 H5 g5 r5 => k v' F5 H5 (g.trans g5) (by rw [hfind]; exact r5)
abbrev sp_Order_greatest (T : Tx K mg) : Sp := Sp1 (rOrder T.C_Order) (fun hs => hs.length ≤ 1000) (rOpt rNat) greatestM
theorem ok_Order_greatest (T : Tx K mg) : FnOk P w K mg base CX0 3 T.a_Order_greatest T.d_Order_greatest ["self"] (sp_Order_greatest T) := by
  refine T.F_Order_greatest.ok sc_Order_greatest (fun vs H Q E h => SpLen.len h) (fun cdv A outer s H vs Q E hr h => ?_)
  obtain ⟨F, v, hs, rfl, e, r, hz, k⟩ := h
  have ri : ∀ F (i : Int), rInt F (.int i) i := fun F i => rfl
  have rn : ∀ F (i : Nat), rNat F (.int (i : Int)) i := fun F i => rfl
  refine ⟨_, (by exact (pss_cons (ps_for PassesOwn.never rfl (pi_range1 rfl T.z_range (pa_cons (pe_callB (call_lenOwn (ok_Order_len T) (hr.mono (by decide)) T.m_Order_len.at_ T.m_Order_len.fn T.b_Order_len pass0) (by rfl) T.z_len PySem.boot_len (pa_cons (pv 0) pa_nil)) pa_nil)) (pg_name (i := 1) sc_Order_greatest.nd rfl (by first | exact Or.inl rfl | exact Or.inr rfl)) (pss_one (ps_if (pt_val (pe_callB (r := rAll K) (cr_all rfl) (by rfl) T.z_all (by decide +kernel) (pa_cons (pe_lc (own := [("one", 2)]) (g := gName 2) (tt := tYes) rfl sc_Order_greatest.nd (pi_range1 rfl T.z_range (pa_cons (pe_callB (call_lenOwn (ok_Order_len T) (hr.mono (by decide)) T.m_Order_len.at_ T.m_Order_len.fn T.b_Order_len pass0) (by rfl) T.z_len PySem.boot_len (pa_cons (pv 0) pa_nil)) pa_nil)) (blkOk_by (own := [("one", 2)]) (N := N_Order_greatest) (sc := defScope s_Order_greatest) (by decide +kernel)) (fun _ _ _ _ _ => (pg_name (i := 2) sc_Order_greatest.nd rfl (by first | exact Or.inl rfl | exact Or.inr rfl))) (fun _ _ _ _ _ => pts_nil) (fun _ _ _ _ _ => (pe_meth (pv 0) T.cl_Order T.m_Order_at_most (ok_Order_at_most T) (hr.mono (by decide)) T.b_Order_at_most .nil pass0 (pa_cons (pv 2) (pa_cons (pv 1) pa_nil))))) pa_nil))) (pss_one (ps_ret (pv 1))) pss_nil)))
      (pss_one (ps_ret pe_non)))), ?_⟩
  walk_at "n"
  refine x_forR (n := hs.length) e (ev_lenOwn (ev_var rfl r) (by omega)) (by omega) (fun i σ' F' H' => Gr M0 F H F' H' ∧ (∀ j, j < i → ((List.range hs.length).all fun one => atMostM hs one j) = false) ∧ ∃ y1 y2, σ' = [some v, y1, y2]) (fun F1 H1 g => ⟨g, fun j h => absurd h (Nat.not_lt_zero j), _, _, rfl⟩) ?_ ?_
  · rintro F1 e1 i σ' F' H' hi e2 e3 ⟨g, hb, y1, y2, rfl⟩
    walk_at "n"
    refine x_if e3 (et_B (ev_all (ev_lcRm (S := rBl) (n := hs.length) (fun one => atMostM hs one i) (ev_lenOwn (ev_var rfl (Mn.mono g.ff r)) (by omega)) (by omega) (fun v => rfl) fun one F5 H5 ho g5 => ev_meth2 (ev_var rfl (Mn.mono (g.ff.trans g5.ff) r)) (ev_var rfl (rn _ one)) (ev_var rfl (rn _ i)) ho))) (fun hbb F4 H4 g4 => ?_) (fun hbb F4 H4 g4 => ?_)
    · have hfind : greatestM hs = some i := L2.find_range _ hi (by rw [← hbb, List.all_map]; rfl) hb
      walk_at "n"
      exact x_ret (R := rOpt rNat) (x := some i) g4.fh (ev_someO (R := rNat) (ev_var rfl (rn F4 i))) fun v' F5 H5 g5 r5 => k v' F5 H5 (g.trans (g4.trans g5)) (by rw [hfind]; exact r5)
    · walk_at "n"
      refine ⟨F4, e2.trans g4.ff, g4.fh, g.trans g4, fun j hj => ?_, _, _, rfl⟩
      by_cases h : j = i
      · rw [h, ← hbb, List.all_map]; rfl
      · exact hb j (by omega)
  · rintro σ' F' H' e1 e2 ⟨g, hb, y1, y2, rfl⟩
    have hfind : greatestM hs = none := L2.find_range_none _ fun j hj => hb j hj
    walk_at "n"
    exact x_ret (R := rOpt rNat) (x := none) e2 ev_noneO fun v' F5 H5 g5 r5 => k v' F5 H5 (g.trans g5) (by rw [hfind]; exact r5)

abbrev rTri : Rp (Nat × Nat × Nat) := r3 rNat rNat rNat
abbrev sp_not_kept (T : Tx K mg) : Sp := Sp2 (rTurns T.C_Turns) (rOrder T.C_Order) GoodK (rOpt rTri) notKeptM
theorem ok_not_kept (T : Tx K mg) : FnOk P w K mg base CX0 3 T.a_not_kept T.d_not_kept ["turns", "order"] (sp_not_kept T) := by
  refine T.F_not_kept.ok sc_not_kept (fun vs H Q E h => SpLen.len h) (fun cdv A outer s H vs Q E hr h => ?_)
  obtain ⟨F, v, w, t, hs, rfl, e, r1, r2, ⟨h1, h2, h3⟩, k⟩ := h
  have t1 := t.h1
  have t3 := t.h3
  have ri : ∀ F (i : Int), rInt F (.int i) i := fun F i => rfl
  have rn : ∀ F (i : Nat), rNat F (.int (i : Int)) i := fun F i => rfl
  refine ⟨_, (by exact (pss_cons (ps_if (pt_cmpR op_ne (pe_callB (call_lenOwn (ok_Order_len T) (hr.mono (by decide)) T.m_Order_len.at_ T.m_Order_len.fn T.b_Order_len pass0) (by rfl) T.z_len PySem.boot_len (pa_cons (pv 1) pa_nil)) (kfld K (pv 0) rfl) (nomark _)) (pss_one ps_never) pss_nil)
      (pss_cons (ps_for PassesOwn.never rfl (kenum K rfl T.z_enumerate (pa_cons (kfld K (pv 0) rfl) pa_nil)) (kptup K (n := 2) rfl (pgs_cons (pg_name (i := 2) sc_not_kept.nd rfl (by first | exact Or.inl rfl | exact Or.inr rfl)) (pgs_cons (pg_name (i := 3) sc_not_kept.nd rfl (by first | exact Or.inl rfl | exact Or.inr rfl)) pgs_nil))) (pss_one (ps_for PassesOwn.never rfl (pi_range1 rfl T.z_range (pa_cons (kfld K (pv 0) rfl) pa_nil)) (pg_name (i := 4) sc_not_kept.nd rfl (by first | exact Or.inl rfl | exact Or.inr rfl)) (pss_one (ps_for PassesOwn.never rfl (klist K (pe_callB (call_sortedDI rfl) (by rfl) T.z_sorted (by decide +kernel) (pa_cons (pe_ix (r := rIxL K) ix_list (kfld K (pv 1) rfl) (pv 4) (fun _ _ => rfl)) pa_nil))) (pg_name (i := 5) sc_not_kept.nd rfl (by first | exact Or.inl rfl | exact Or.inr rfl)) (pss_one (ps_if (pt_not (pt_val (pe_meth (pv 1) T.cl_Order T.m_Order_at_most (ok_Order_at_most T) (hr.mono (by decide)) T.b_Order_at_most .nil pass0 (pa_cons (pe_ix (r := rIxT K) ix_tup (pv 3) (pv 4) (fun _ _ => rfl)) (pa_cons (pe_ix (r := rIxT K) ix_tup (pv 3) (pv 5) (fun _ _ => rfl)) pa_nil))))) (pss_one (ps_ret (pe_tup (pa_cons (pv 2) (pa_cons (pv 4) (pa_cons (pv 5) pa_nil)))))) pss_nil)))))))
      (pss_one (ps_ret pe_non))))), ?_⟩
  walk_at "n"
  refine x_if (b := false) e (EvT.is (et_test (ev_neI (ev_lenOwn (ev_var rfl r2) (by omega)) (ev_fld (ev_var rfl r1)).nat)) (by rw [h1]; simp)) (fun z => nomatch z) fun _ F1 H1 g1 => ?_
  walk_at "n"
  refine x_forE g1.fh (ev_fld (ev_var rfl (Mn.mono g1.ff r1))) (fun i σ' F' H' => Gr M0 F H F' H' ∧ (((List.range i).map (trisS t.many hs)).flatten).find? (badB t hs) = none ∧ ∃ y1 y2 y3 y4, σ' = [some v, some w, y1, y2, y3, y4]) (fun F2 H2 g2 => ⟨g1.trans g2, rfl, _, _, _, _, rfl⟩) ?_ ?_ ?_
  · rintro n σ' F' H' F2 H2 g2 ⟨g, hb, y1, y2, y3, y4, rfl⟩
    exact ⟨g.trans g2, hb, _, _, _, _, rfl⟩
  · rintro F2 e2 i m u σ' F' H' hx e3 e4 rx ⟨g, hb, y1, y2, y3, y4, rfl⟩
    have hx : t.maps[i]? = some m := hx
    have hi : i < t.maps.length := (List.getElem?_eq_some_iff.mp hx).1
    have em : t.maps.getD i [] = m := by rw [List.getD_eq_getElem?_getD, hx]; rfl
    have hm := t.h4 m (mem_of_at hx)
    walk_at "n"
    refine x_forR (n := t.many) e4 (ev_fld (ev_var rfl (Mn.mono g.ff r1))).nat (by omega) (fun j σ' F6 H6 => Gr M0 F H F6 H6 ∧ (((List.range j).map (trisG hs i)).flatten).find? (badB t hs) = none ∧ ∃ y3 y4, σ' = [some v, some w, some (.int (i : Int)), some u, y3, y4]) (fun F5 H5 g5 => ⟨g.trans g5, rfl, _, _, rfl⟩) ?_ ?_
    · rintro F5 e5 x σ' F6 H6 hx6 e6 e7 ⟨g6, hb6, y3, y4, rfl⟩
      have rx6 := Mn.mono (e5.trans e6) rx
      have hxl : x < hs.length := by omega
      walk_at "n"
      refine x_forL e7 (ev_sortD (ev_ixL (ev_fld (ev_var rfl (Mn.mono g6.ff r2))) (ev_var rfl (ri _ (x : Int))) (atI_natL (getD_at (xs := hs) (d := []) hxl))) (h3 x hx6)) (fun q σ' F8 H8 => Gr M0 F H F8 H8 ∧ ((trisG hs i x).take q).find? (badB t hs) = none ∧ ∃ y4, σ' = [some v, some w, some (.int (i : Int)), some u, some (.int (x : Int)), y4]) (fun F7 H7 g7 => ⟨g6.trans g7, rfl, _, rfl⟩) ?_ ?_
      · rintro F7 e8 q y u2 σ' F8 H8 hy e9 e10 ry ⟨g8, hb8, y4, rfl⟩
        cases (show u2 = _ from ry)
        have hyn : y < t.many := h2 x hx6 y (sort_mem.mp (mem_of_at hy))
        have ru := Mn.mono (e8.trans e9) rx6
        have hax : m[x]? = some (m.getD x 0) := getD_at (by rw [hm.1]; exact hx6)
        have hay : m[y]? = some (m.getD y 0) := getD_at (by rw [hm.1]; exact hyn)
        have hmx : m.getD x 0 < hs.length := by rw [h1]; exact hm.2 _ (List.mem_of_getElem? hax)
        walk_at "n"
        refine x_if (b := badB t hs (i, x, y)) e10 (EvT.is (et_not (et_B (ev_meth2 (x := hs) (y := m.getD x 0) (z := m.getD y 0) (ev_var rfl (Mn.mono g8.ff r2)) (ev_ixT (ev_var rfl ru) (ev_var rfl (ri _ (x : Int))) (atI_natL hax)) (ev_ixT (ev_var rfl ru) (ev_var rfl (ri _ (y : Int))) (atI_natL hay)) hmx))) ?_) (fun hbb F9 H9 g9 => ?_) (fun hbb F9 H9 g9 => ?_)
        · unfold badB
          rw [em]
        · have hit := tri_hit hi hx6 hy hb hb6 hb8 hbb
          walk_at "n"
          exact x_ret (R := rOpt rTri) (x := some (i, x, y)) g9.fh (ev_someO (R := rTri) (ev_r3 (ev_var rfl (rn _ i)) (ev_var rfl (rn _ x)) (ev_var rfl (rn _ y)))) fun v' F10 H10 g10 r10 => k v' F10 H10 (g8.trans (g9.trans g10)) (by rw [hit]; exact r10)
        · walk_at "n"
          refine ⟨F9, e9.trans g9.ff, g9.fh, g8.trans g9, ?_, _, rfl⟩
          have hk : (trisG hs i x)[q]? = some (i, x, y) := by
            unfold trisG
            rw [List.getElem?_map, hy]
            rfl
          rw [List.take_add_one, hk]
          refine find_none_app hb8 ?_
          show List.find? _ [(i, x, y)] = none
          rw [List.find?_cons, hbb]
          rfl
      · rintro σ' F8 H8 e8 e9 ⟨g8, hb8, y4, rfl⟩
        rw [List.take_of_length_le (by unfold trisG; rw [List.length_map]; exact Nat.le_refl _)] at hb8
        walk_at "n"
        refine ⟨F8, e6.trans e8, e9, g8, ?_, _, _, rfl⟩
        rw [flat_succ]
        exact find_none_app hb6 hb8
    · rintro σ' F6 H6 e5 e6 ⟨g6, hb6, y3, y4, rfl⟩
      walk_at "n"
      refine ⟨F6, e3.trans e5, e6, g6, ?_, _, _, _, _, rfl⟩
      rw [flat_succ]
      exact find_none_app hb hb6
  · rintro σ' F' H' e1 e2 ⟨g, hb, y1, y2, y3, y4, rfl⟩
    have hnone : notKeptM t hs = none := hb
    walk_at "n"
    exact x_ret (R := rOpt rTri) (x := none) e2 ev_noneO fun v' F5 H5 g5 r5 => k v' F5 H5 (g.trans g5) (by rw [hnone]; exact r5)

abbrev sp_NotKept_init (T : Tx K mg) : Sp := spKeep T.C_NotKept "kept"
theorem ok_NotKept_init (T : Tx K mg) : FnOk P w K mg base CX0 1 T.a_NotKept_init T.d_NotKept_init ["self", "kept"] (sp_NotKept_init T) := by
  refine T.F_NotKept_init.ok sc_NotKept_init (fun vs H Q E h => SpLen.len h) (fun cdv A outer s H vs Q E hr h => ?_)
  obtain ⟨a, v, rfl, ha, k⟩ := h
  refine ⟨_, (by exact (pss_cons (ps_expr (pe_dinit T.base_DrawError rfl T.g_DrawError (pa_cons (pv 0) (pa_cons pe_str pa_nil))))
      (pss_one (ps_ost (pv 0) (pv 1))))), ?_⟩
  walk_at "n"
  refine ⟨.ref a, rfl, a, T.C_NotKept, [_], rfl, by show 1 ≤ 1000; decide, T.oex_NotKept, ha, ?_⟩
  walk_at "n"
  refine ⟨v, rfl, .ref a, rfl, a, T.C_NotKept, rfl, T.oex_NotKept, T.nf_NotKept, .inl ⟨ha, fun dx hdx hne => ?_⟩⟩
  exact k dx hdx hne

def SpBetw2 (CT CO CX CE : Addr) : Sp := fun vs H Q E => ∃ (F : Hp) (v w u : V) (t : Tn) (hs : List (List Nat)) (xs : List Nat), vs = [v, w, u] ∧ Ex F H ∧ rTurns CT F v t ∧ rOrder CO F w hs ∧ rLst rNat F u xs ∧
  GoodK t hs ∧ (∀ lo, leastM hs = some lo → lo < t.many) ∧ (∀ hi, greatestM hs = some hi → hi < t.many) ∧ (∀ s ∈ xs, s < t.maps.length) ∧ xs.length ≤ 1000000 ∧
  (∀ lo hi, notKeptM t hs = none → leastM hs = some lo → greatestM hs = some hi → ∀ r F' H', Gr M0 F H F' H' → rOpt (rPr rNat rNat) F' r (loopB t lo hi (idMap t.many) 0 xs) → Q r H') ∧
  (∀ p, notKeptM t hs = some p → ∀ v d F' H', Gr M0 F H F' H' → r3 rNat rNat rNat F' v p → H' d = none → E (.ref CX) (some d) (upd H' d (.xd [(("kept" : Str), v)]))) ∧
  (notKeptM t hs = none → leastM hs = none ∨ greatestM hs = none → ∀ F' H', Gr M0 F H F' H' → E (.ref CE) none H')
instance {a b c d : Addr} : SpLen (SpBetw2 a b c d) 3 := ⟨fun ⟨_, _, _, _, _, _, _, h, _⟩ => by rw [h]; rfl⟩
abbrev sp_drawn_between (T : Tx K mg) : Sp := SpBetw2 T.C_Turns T.C_Order T.C_NotKept T.C_NoEnds
theorem ok_drawn_between (T : Tx K mg) : FnOk P w K mg base (L2.CX P w) 4 T.a_drawn_between T.d_drawn_between ["turns", "order", "signs"] (sp_drawn_between T) := by
  refine T.F_drawn_between.okX sc_drawn_between (fun vs H Q E h => SpLen.len h) (fun cdv A outer s H vs Q E hr h => ?_)
  obtain ⟨F, v, w, u, t, hs, xs, rfl, e, r1, r2, r3, hk, hlo, hhi, hsg, hz, kn, ks, ke⟩ := h
  have t1 := t.h1
  have h1 := hk.1
  have ri : ∀ F (i : Int), rInt F (.int i) i := fun F i => rfl
  have rn : ∀ F (i : Nat), rNat F (.int (i : Int)) i := fun F i => rfl
  refine ⟨_, (by exact (pss_cons (ps_set (i := 3) sc_drawn_between.nd rfl (Or.inl rfl) (pe_call (ok_not_kept T) (hr.mono (by decide)) rfl T.g_not_kept T.F_not_kept.kp T.b_not_kept .nil pass0 (pa_cons (pv 0) (pa_cons (pv 1) pa_nil))))
      (pss_cons (ps_if (pt_cmpR op_notN1 (pv 3) pe_non (nomark _)) (pss_one (ps_raise rfl (takes_of rfl rfl rfl rfl) (pmk_oex T.oex_NotKept T.ii_NotKept T.tf_NotKept (ok_NotKept_init T) (hr.mono (by decide)) T.b_NotKept_init .nil pass0 rfl T.g_NotKept (pa_cons (pv 3) pa_nil)))) pss_nil)
      (pss_cons (ps_set (i := 4) sc_drawn_between.nd rfl (Or.inl rfl) (pe_meth0 (pv 1) T.cl_Order T.m_Order_least (ok_Order_least T) (hr.mono (by decide)) T.b_Order_least .nil pass0))
      (pss_cons (ps_set (i := 5) sc_drawn_between.nd rfl (Or.inl rfl) (pe_meth0 (pv 1) T.cl_Order T.m_Order_greatest (ok_Order_greatest T) (hr.mono (by decide)) T.b_Order_greatest .nil pass0))
      (pss_cons (ps_if (PW.pt (pw_or (pt_cmpR op_isN1 (pv 4) pe_non (nomark _)) (pw_or1 (pt_cmpR op_isN1 (pv 5) pe_non (nomark _))))) (pss_one (ps_raise rfl (takes_of rfl rfl rfl rfl) (pmk_own PySem.F.excBase_ValueError T.xp_NoEnds T.g_NoEnds T.xk_NoEnds (raises_own T.xe_NoEnds T.xt_NoEnds) (by exact rfl)))) pss_nil)
      (PSs.nox (pss_cons (ps_expr (pe_call (ok_check_signs T) (hr.mono (by decide)) rfl T.g_check_signs T.F_check_signs.kp T.b_check_signs .nil pass0 (pa_cons (pv 0) (pa_cons (pv 2) pa_nil))))
      (pss_cons (ps_set (i := 6) sc_drawn_between.nd rfl (Or.inr rfl) (pe_listRg rfl (by rfl) T.z_list (prg_1 (by rfl) T.z_range (kfld K (pv 0) rfl))))
      (pss_cons (ps_for PassesOwn.never rfl (kenum K rfl T.z_enumerate (pa_cons (pv 2) pa_nil)) (kptup K (n := 2) rfl (pgs_cons (pg_name (i := 7) sc_drawn_between.nd rfl (by first | exact Or.inl rfl | exact Or.inr rfl)) (pgs_cons (pg_name (i := 8) sc_drawn_between.nd rfl (by first | exact Or.inl rfl | exact Or.inr rfl)) pgs_nil))) (pss_cons (ps_if (pt_cmpR op_eq (pe_ix (r := rIxL K) ix_list (pv 6) (pv 4) (fun _ _ => rfl)) (pe_ix (r := rIxL K) ix_list (pv 6) (pv 5) (fun _ _ => rfl)) (nomark _)) (pss_one (ps_ret (pe_tup (pa_cons (pe_ix (r := rIxL K) ix_list (pv 6) (pv 4) (fun _ _ => rfl)) (pa_cons (pv 7) pa_nil))))) pss_nil)
      (pss_one (ps_set (i := 6) sc_drawn_between.nd rfl (Or.inr rfl) (pe_lc (own := [("to", 9)]) (g := gName 9) (tt := tYes) rfl sc_drawn_between.nd (ktup K (pe_ix (r := rIxL K) ix_list (kfld K (pv 0) rfl) (pv 8) (fun _ _ => rfl))) (blkOk_by (own := [("to", 9)]) (N := N_drawn_between) (sc := defScope s_drawn_between) (by decide +kernel)) (fun _ _ _ _ _ => (pg_name (i := 9) sc_drawn_between.nd rfl (by first | exact Or.inl rfl | exact Or.inr rfl))) (fun _ _ _ _ _ => pts_nil) (fun _ _ _ _ _ => (pe_ix (r := rIxL K) ix_list (pv 6) (pv 9) (fun _ _ => rfl))))))))
      (pss_one (ps_ret (pe_ifExp (pt_cmpR op_eq (pe_ix (r := rIxL K) ix_list (pv 6) (pv 4) (fun _ _ => rfl)) (pe_ix (r := rIxL K) ix_list (pv 6) (pv 5) (fun _ _ => rfl)) (nomark _)) (pe_tup (pa_cons (pe_ix (r := rIxL K) ix_list (pv 6) (pv 4) (fun _ _ => rfl)) (pa_cons (pe_callB (r := rLenS K) call_len_seq (by rfl) T.z_len PySem.boot_len (pa_cons (pv 2) pa_nil)) pa_nil))) pe_non))))))))))))), ?_⟩
  walk_at "n"
  refine x_set (R := rOpt rTri) (x := notKeptM t hs) e (ev_call2 (ev_var rfl r1) (ev_var rfl r2) hk) fun v3 F1 H1 g1 r4 => ?_
  walk_at "n"
  refine x_if (b := (notKeptM t hs).isSome) g1.fh (et_test (ev_notN (ev_var rfl r4))) (fun hb F2 H2 g2 => ?_) (fun hb F2 H2 g2 => ?_)
  · obtain ⟨p, hp⟩ := Option.isSome_iff_exists.mp hb
    rw [hp] at r4
    have r4' : rTri F2 v3 p := Mn.mono g2.ff (show rTri F1 v3 p from r4)
    exact x_raise (C := T.C_NotKept) (f := ("kept" : Str)) (W := fun cls d _ H => E cls d H) (R := rTri) (x := p) g2.fh (ev_var rfl r4') fun v d F' H' g r hd => ks p hp v d F' H' (g1.trans (g2.trans g)) r hd
  have hnone : notKeptM t hs = none := by
    cases q : notKeptM t hs with
    | none => rfl
    | some p => rw [q] at hb; cases hb
  have g12 := g1.trans g2
  walk_at "n"
  refine x_set (R := rOpt rNat) (x := leastM hs) g2.fh (ev_meth0 (ev_var rfl (Mn.mono g12.ff r2)) (by omega)) fun v4 F3 H3 g3 r5 => ?_
  walk_at "n"
  refine x_set (R := rOpt rNat) (x := greatestM hs) g3.fh (ev_meth0 (ev_var rfl (Mn.mono (g12.ff.trans g3.ff) r2)) (by omega)) fun v5 F4 H4 g4 r6 => ?_
  have r5 := Mn.mono g4.ff r5
  walk_at "n"
  refine x_if (b := (leastM hs).isNone || (greatestM hs).isNone) g4.fh (et_or (et_test (ev_isN (R := rNat) (x := leastM hs) (ev_var rfl r5))) fun _ => et_test (ev_isN (R := rNat) (x := greatestM hs) (ev_var rfl r6))) (fun z F5 H5 g5 => ?_) fun z F5 H5 g5 => ?_
  · have z2 : leastM hs = none ∨ greatestM hs = none := by
      rcases Bool.or_eq_true_iff.mp z with z | z
      · exact .inl (Option.isNone_iff_eq_none.mp z)
      · exact .inr (Option.isNone_iff_eq_none.mp z)
    exact ke hnone z2 F5 H5 (g12.trans (g3.trans (g4.trans g5)))
  obtain ⟨z1, z2⟩ := Bool.or_eq_false_iff.mp z
  obtain ⟨lo, el⟩ : ∃ lo, leastM hs = some lo := by
    cases q : leastM hs with
    | none => rw [q] at z1; cases z1
    | some p => exact ⟨p, rfl⟩
  obtain ⟨hi, eh⟩ : ∃ hi, greatestM hs = some hi := by
    cases q : greatestM hs with
    | none => rw [q] at z2; cases z2
    | some p => exact ⟨p, rfl⟩
  have l1 := hlo lo el
  have l2 := hhi hi eh
  have kn := kn lo hi hnone el eh
  rw [el] at r5
  rw [eh] at r6
  cases (show v4 = _ from (show rNat F4 v4 lo from r5))
  cases (show v5 = _ from (show rNat F4 v5 hi from r6))
  have g15 := g12.trans (g3.trans (g4.trans g5))
  walk_at "n"
  refine x_drop g5.fh (ev_call2 (ev_var rfl (Mn.mono g15.ff r1)) (ev_var rfl (Mn.mono g15.ff r3)) hsg) fun F6 H6 g6 => ?_
  have g16 := g15.trans g6
  walk_at "n"
  refine x_set (R := rLst rNat) (x := idMap t.many) g6.fh (ev_lstRg (ev_fld (ev_var rfl (Mn.mono g16.ff r1))).nat (by omega)) fun v7 F7 H7 g7 r7 => ?_
  have g17 := g16.trans g7
  walk_at "n"
  refine x_forE g7.fh (ev_var rfl (Mn.mono g17.ff r3)) (fun i σ' F' H' => Gr M0 F H F' H' ∧ ∃ f fv y1 y2 y3, rLst rNat F' fv f ∧ IsMap t.many f ∧ loopB t lo hi (idMap t.many) 0 xs = loopB t lo hi f i (xs.drop i) ∧ σ' = [some v, some w, some u, some v3, some (.int (lo : Int)), some (.int (hi : Int)), some fv, y1, y2, y3])
    (fun F8 H8 g8 => ⟨g17.trans g8, idMap t.many, v7, _, _, _, Mn.mono g8.ff r7, isMap_id _, rfl, rfl⟩) ?_ ?_ ?_
  · rintro n σ' F' H' F2 H2 g2 ⟨g, f, fv, y1, y2, y3, rf, hf, hl, rfl⟩
    exact ⟨g.trans g2, f, fv, _, _, _, Mn.mono g2.ff rf, hf, hl, rfl⟩
  · rintro F8 e8 i s u2 σ' F' H' hx e3 e4 rx ⟨g, f, fv, y1, y2, y3, rf, hf, hl, rfl⟩
    cases (show u2 = _ from rx)
    have hs1 := hsg s (mem_of_at hx)
    have hfl : f[lo]? = some (f.getD lo 0) := getD_at (by rw [hf.1]; exact l1)
    have hfh : f[hi]? = some (f.getD hi 0) := getD_at (by rw [hf.1]; exact l2)
    have hdrop : xs.drop i = s :: xs.drop (i + 1) := by
      obtain ⟨hl', he'⟩ := List.getElem?_eq_some_iff.mp hx
      rw [List.drop_eq_getElem_cons hl', he']
    walk_at "n"
    refine x_if e4 (et_test (ev_eqI (ev_ixL (ev_var rfl rf) (ev_var rfl (ri _ (lo : Int))) (atI_natL hfl)).nat (ev_ixL (ev_var rfl rf) (ev_var rfl (ri _ (hi : Int))) (atI_natL hfh)).nat)) (fun hbb F9 H9 g9 => ?_) (fun hbb F9 H9 g9 => ?_)
    · have heq : f.getD lo 0 = f.getD hi 0 := by have := of_decide_eq_true hbb; omega
      walk_at "n"
      refine x_ret (R := rOpt (rPr rNat rNat)) (x := some (f.getD lo 0, i)) g9.fh (ev_someO (R := rPr rNat rNat) (ev_pr (R := rNat) (S := rNat) (ev_ixL (ev_var rfl (Mn.mono g9.ff rf)) (ev_var rfl (ri _ (lo : Int))) (atI_natL hfl)) (ev_var rfl (rn _ i)))) fun v' F10 H10 g10 r10 => kn v' F10 H10 (g.trans (g9.trans g10)) ?_
      rw [hl, loopB_hit heq]
      exact r10
    · have hne : ¬ f.getD lo 0 = f.getD hi 0 := by have := of_decide_eq_false hbb; omega
      have hmm := t.isMap hs1
      have rf9 := Mn.mono g9.ff rf
      walk_at "n"
      refine x_set (R := rLst rNat) (x := thenM (t.maps.getD s []) f) g9.fh (ev_lcTm (R := rNat) (S := rNat) (fun to => f.getD to 0) (ev_ixL (x := t.maps.getD s []) (ev_fld (ev_var rfl (Mn.mono (g.ff.trans g9.ff) r1))) (ev_var rfl (ri _ (s : Int))) (atI_natL (getD_at hs1))) (by rw [hmm.1]; omega) (fun v => rfl) fun j to v' F10 H10 hto g10 rto => ?_) fun v10 F10 H10 g10 r10 => ?_
      · cases (show v' = _ from rto)
        exact ev_ixL (ev_var rfl (Mn.mono g10.ff rf9)) (ev_var rfl (ri _ (to : Int))) (atI_natL (getD_at (by rw [hf.1]; exact hmm.2 to (mem_of_at hto))))
      refine ⟨F10, e3.trans (g9.ff.trans g10.ff), g10.fh, g.trans (g9.trans g10), _, v10, _, _, _, r10, isMap_then hmm hf, ?_, rfl⟩
      rw [hl, hdrop, loopB_go hne]
  · rintro σ' F' H' e1 e2 ⟨g, f, fv, y1, y2, y3, rf, hf, hl, rfl⟩
    rw [List.drop_length] at hl
    have hfl : f[lo]? = some (f.getD lo 0) := getD_at (by rw [hf.1]; exact l1)
    have hfh : f[hi]? = some (f.getD hi 0) := getD_at (by rw [hf.1]; exact l2)
    walk_at "n"
    refine x_ret (R := rOpt (rPr rNat rNat)) e2 (ev_if (x1 := some (f.getD lo 0, xs.length)) (x2 := none) (et_test (ev_eqI (ev_ixL (ev_var rfl rf) (ev_var rfl (ri _ (lo : Int))) (atI_natL hfl)).nat (ev_ixL (ev_var rfl rf) (ev_var rfl (ri _ (hi : Int))) (atI_natL hfh)).nat)) (fun _ => ev_someO (R := rPr rNat rNat) (ev_pr (R := rNat) (S := rNat) (ev_ixL (ev_var rfl rf) (ev_var rfl (ri _ (lo : Int))) (atI_natL hfl)) (Ev.toNat (ev_lenL (ev_var rfl (Mn.mono g.ff r3)))))) fun _ => ev_noneO) fun v' F10 H10 g10 r10 => kn v' F10 H10 (g.trans g10) ?_
    rw [hl]
    unfold loopB
    by_cases hq : f.getD lo 0 = f.getD hi 0
    · rw [if_pos hq]
      rw [if_pos (decide_eq_true (by omega))] at r10
      exact r10
    · rw [if_neg hq]
      rw [if_neg (by rw [decide_eq_false (by omega)]; exact Bool.false_ne_true)] at r10
      exact r10
def SpTold2 (CT CO : Addr) : Sp := fun vs H Q _ => ∃ (F : Hp) (v w u : V) (t : Tn) (hs : List (List Nat)) (xs : List Nat), vs = [v, w, u] ∧ Ex F H ∧ rTurns CT F v t ∧ rOrder CO F w hs ∧ rLst rNat F u xs ∧
  GoodK t hs ∧ (∀ lo, leastM hs = some lo → lo < t.many) ∧ (∀ hi, greatestM hs = some hi → hi < t.many) ∧ (∀ s ∈ xs, s < t.maps.length) ∧ xs.length ≤ 1000000 ∧
  ∀ r F' H', Gr M0 F H F' H' → rTld F' r (tldM t hs xs) → Q r H'
instance {a b : Addr} : SpLen (SpTold2 a b) 3 := ⟨fun ⟨_, _, _, _, _, _, _, h, _⟩ => by rw [h]; rfl⟩
abbrev sp__law_told (T : Tx K mg) : Sp := SpTold2 T.C_Turns T.C_Order
theorem ev_tld {CT CO : Addr} {σ : St} {F H : Hp} {ta tb tc : TE} {E : XK} {t : Tn} {hs : List (List Nat)} {xs : List Nat} {B : Nat → Nat → Prop} (ha : Ev (rTurns CT) ta σ F H t) (hb : Ev (rOrder CO) tb σ F H hs) (hc : Ev (rLst rNat) tc σ F H xs)
    (o : OrdR t.many hs B) (hk : GoodK t hs) (hsg : ∀ s ∈ xs, s < t.maps.length) (hz : xs.length ≤ 1000000) : Ev rTld (tCall (SpTold2 CT CO) [] E (tCons ta (tCons tb (tCons tc tNil)))) σ F H (tldM t hs xs) := fun F1 H1 g1 Q q =>
  ha F1 H1 g1 _ fun v F2 H2 g2 r => hb F2 H2 (g1.trans g2) _ fun w F3 H3 g3 r3 => hc F3 H3 ((g1.trans g2).trans g3) _ fun w' F4 H4 g4 r4 =>
    ⟨F4, v, w, w', t, hs, xs, rfl, g4.fh, Mn.mono (g3.ff.trans g4.ff) r, Mn.mono g4.ff r3, r4, hk, fun lo h => by rw [o.least] at h; exact List.mem_range.mp (List.mem_of_find?_eq_some h), fun hi h => by rw [o.greatest] at h; exact List.mem_range.mp (List.mem_of_find?_eq_some h), hsg, hz, fun r F' H' g rr => q r F' H' (g2.trans (g3.trans (g4.trans g))) rr⟩
theorem ok__law_told (T : Tx K mg) : FnOk P w K mg base CX0 5 T.a__law_told T.d__law_told ["_law_turns", "_law_order", "_law_signs"] (sp__law_told T) := by
  refine T.F__law_told.ok sc__law_told (fun vs H Q E h => SpLen.len h) (fun cdv A outer s H vs Q E hr h => ?_)
  obtain ⟨F, v, w, u, t, hs, xs, rfl, e, r1, r2, r3, hk, hlo, hhi, hsg, hz, k⟩ := h
  refine ⟨_, (by exact (pss_one (ps_try_mix (Wout := fun _ _ _ _ => False) rfl rfl sc__law_told.nd takes0 (fun W pn xe tk _ => (pss_one (ps_ret (pe_callS (ok_drawn_between T) (hr.mono (by decide)) rfl T.g_drawn_between T.F_drawn_between.kp T.b_drawn_between (fun σ => passAt tk σ) (pa_cons (pv 0) (pa_cons (pv 1) (pa_cons (pv 2) pa_nil))))))) (HdsM.named (i := 3) rfl rfl ⟨rfl, by decide, Or.inl T.g_NotKept⟩ (fun a oe cls d pn hz hf => (pss_one (ps_ret (pe_tup (pa_cons pe_str (pa_cons (pe_ix (r := rIxT K) ix_tup (pe_xf T.xf_NotKept T.nf_NotKept hz hf (pv 3)) pe_int (fun _ _ => rfl)) pa_nil)))))) (HdsM.bare ⟨rfl, by decide, Or.inl T.g_NoEnds⟩ (fun a oe cls d pn hz hf => (pss_one (ps_ret pe_str))) (HdsM.bare ⟨rfl, by decide, Or.inl T.g_DrawError⟩ (fun a oe cls d pn hz hf => (pss_one (ps_ret pe_str))) HdsM.nil)))))), ?_⟩
  walk_at "n"
  refine ⟨v, rfl, w, rfl, u, rfl, F, v, w, u, t, hs, xs, rfl, e, r1, r2, r3, hk, hlo, hhi, hsg, hz, fun lo hi hn hl hg r F' H' g rr => ?_, fun p hp v' d F' H' g rr hd => ?_, fun hn hl F' H' g => ?_⟩
  · refine k _ _ _ g ?_
    unfold tldM
    rw [hn, hl, hg]
    exact rr
  · obtain ⟨s, x, y⟩ := p
    refine ⟨true, T.te_NotKept, fun _ a ha => ?_, fun q => Bool.noConfusion q⟩
    have g1 : Gr M0 F' H' F' (upd H' d (.xd [(("kept" : Str), v')])) := .loc g.fh hd
    obtain ⟨at_, z1, z2, z3, rfl, hA, q1, q2, q3⟩ := rr
    cases (show z1 = _ from q1)
    have hA1 := g1.fh _ _ hA
    refine ⟨.ref a, rfl, rfl, rfl, d, _, .ref at_, rfl, upd_same, rfl, at_, _, 0, .int (s : Int), rfl, rfl, SqT.of hA1, rfl, by show 2 ≤ sizeLine; decide, fun B hB => ?_⟩
    refine k _ _ _ ((g.trans g1).trans (.new g1.fh hB)) ?_
    unfold tldM
    rw [hp]
    exact ⟨B, rfl, upd_same⟩
  · refine ⟨false, T.tm_NoEnds_NotKept, fun q => Bool.noConfusion q, fun _ => ⟨true, T.te_NoEnds, fun _ a ha => ?_, fun q => Bool.noConfusion q⟩⟩
    refine k _ _ _ g ?_
    unfold tldM
    rw [hn]
    rcases hl with hl | hl
    · rw [hl]; rfl
    · rw [hl]
      cases leastM hs <;> rfl

abbrev sp__law_well (T : Tx K mg) : Sp := fun vs H Q _ => ∃ F i, vs = [.int i] ∧ Ex F H ∧ ∀ a H', Gr M0 F H F H' → H a = none → F a = none → Src H' a 1099511627776 → Q (.ref a) H'
instance {T : Tx K mg} : SpLen (sp__law_well T) 1 := ⟨fun ⟨_, _, h, _⟩ => by rw [h]; rfl⟩
theorem ok__law_well (T : Tx K mg) : FnOk P w K mg base CX0 1 T.a__law_well T.d__law_well ["_law_cell"] (sp__law_well T) := by
  refine T.F__law_well.ok sc__law_well (fun vs H Q E h => SpLen.len h) (fun cdv A outer s H vs Q E hr h => ?_)
  obtain ⟨F, i, rfl, e, k⟩ := h
  refine ⟨_, (by exact (pss_one (ps_ret (pe_lst (pa_cons (pe_op op_mul (pv 0) (pe_callTy call_int1 (by rfl) T.z_int (by decide +kernel) (pa_cons (pe_cmpR op_ge (pv 0) (pe_op op_pow pe_int pe_int) (nomark _)) pa_nil))) (pa_cons (pe_op op_mod (pv 0) pe_int) (pa_cons pe_int pa_nil))))))), ?_⟩
  have mk : ∀ j : Int, 0 ≤ j → tRet (fun _ H' Q' => (3 : Nat) ≤ sizeLine ∧ ∀ p, H' p = none → Q' (.ref p) (upd H' p (.lst [.int j, .int (i % 2147483647), .int 0]))) { nx := fun x H' => Q V.non H', rt := Q } (L2.start N__law_well [.int i]) H := fun j hj => by
    refine ⟨by decide, fun p hp => k p _ (.loc e hp) hp (e.free hp) ⟨j, i % 2147483647, 0, upd_same, hj, by omega, by omega, by omega, by omega⟩⟩
  by_cases h : (10 : Int) ^ (18 : Int).toNat ≤ i
  · have h0 : (0 : Int) ≤ i * 1 := by
      have : (0 : Int) ≤ (10 : Int) ^ (18 : Int).toNat := by decide
      omega
    have := mk (i * 1) h0
    refine ⟨.int i, rfl, .int i, rfl, 10, 18, rfl, rfl, ⟨by decide, by decide, by decide⟩, i, _, rfl, rfl, .inr ⟨true, by show [V.bl (decide ((10 : Int) ^ (18 : Int).toNat ≤ i))] = _; rw [decide_eq_true h], ?_⟩⟩
    refine ⟨i, 1, rfl, rfl, .inr ⟨by omega, by omega⟩, ?_⟩
    exact ⟨.int i, rfl, i, 2147483647, rfl, rfl, (by show (0 : Int) < 2147483647; decide), this⟩
  · have := mk (i * 0) (by omega)
    refine ⟨.int i, rfl, .int i, rfl, 10, 18, rfl, rfl, ⟨by decide, by decide, by decide⟩, i, _, rfl, rfl, .inr ⟨false, by show [V.bl (decide ((10 : Int) ^ (18 : Int).toNat ≤ i))] = _; rw [decide_eq_false h], ?_⟩⟩
    refine ⟨i, 0, rfl, rfl, .inr ⟨by omega, by omega⟩, ?_⟩
    exact ⟨.int i, rfl, i, 2147483647, rfl, rfl, (by show (0 : Int) < 2147483647; decide), this⟩
abbrev sp__law_draw (T : Tx K mg) : Sp := SpS1 1 rNat (fun m => 0 < m ∧ m ≤ 1000000000) rNat (fun m d => d < m)
theorem nat_of_mod {i : Int} {m : Nat} (h : 0 < m) : ∃ d : Nat, i % (m : Int) = (d : Int) ∧ d < m := ⟨(i % (m : Int)).toNat, by have := Int.emod_nonneg i (show (m : Int) ≠ 0 by omega); omega, by have := Int.emod_lt_of_pos i (show (0 : Int) < m by omega); have := Int.emod_nonneg i (show (m : Int) ≠ 0 by omega); omega⟩
theorem prime_at (k : Int) : ∃ p : Int, atI [2147483647, 2147483629, 2147483587, 2147483579, 2147483563, 2147483549, (2147483543 : Int)] (k % 7) = some p ∧ 0 < p ∧ p < 2147483648 := by
  have h0 := Int.emod_nonneg k (show (7 : Int) ≠ 0 by decide)
  have h1 := Int.emod_lt_of_pos k (show (0 : Int) < 7 by decide)
  obtain ⟨j, hj⟩ : ∃ j : Nat, k % 7 = (j : Int) := ⟨(k % 7).toNat, by omega⟩
  rw [hj]
  have : j < 7 := by omega
  match j, this with
  | 0, _ => exact ⟨_, rfl, by decide, by decide⟩
  | 1, _ => exact ⟨_, rfl, by decide, by decide⟩
  | 2, _ => exact ⟨_, rfl, by decide, by decide⟩
  | 3, _ => exact ⟨_, rfl, by decide, by decide⟩
  | 4, _ => exact ⟨_, rfl, by decide, by decide⟩
  | 5, _ => exact ⟨_, rfl, by decide, by decide⟩
  | 6, _ => exact ⟨_, rfl, by decide, by decide⟩
theorem ok__law_draw (T : Tx K mg) : FnOk P w K mg base CX0 1 T.a__law_draw T.d__law_draw ["_law_well_here", "_law_many"] (sp__law_draw T) := by
  refine T.F__law_draw.ok sc__law_draw (fun vs H Q E h => SpLen.len h) (fun cdv A outer s H vs Q E hr h => ?_)
  obtain ⟨F, a, N, v, m, rfl, e, fa, ⟨n, c, kk, hs, n0, c0, c1, k0, kb⟩, r, ⟨m0, m1⟩, k⟩ := h
  cases (show v = _ from r)
  refine ⟨_, (by exact (pss_cons (ps_if (pt_cmpR op_gt (pe_ix (r := rIxL K) ix_list (pv 0) pe_int (fun _ _ => rfl)) pe_int (nomark _)) (pss_cons (ps_set (i := 2) sc__law_draw.nd rfl (Or.inl rfl) (pe_op op_mod (pe_ix (r := rIxL K) ix_list (pv 0) pe_int (fun _ _ => rfl)) (pv 1)))
      (pss_cons (ps_asg (pe_op op_fdiv (pe_ix (r := rIxL K) ix_list (pv 0) pe_int (fun _ _ => rfl)) (pv 1)) (pg_sub (pv 0) pe_int set_list))
      (pss_one (ps_ret (pv 2))))) pss_nil)
      (pss_cons (ps_asg (pe_op op_add (pe_ix (r := rIxL K) ix_list (pv 0) pe_int (fun _ _ => rfl)) pe_int) (pg_sub (pv 0) pe_int set_list))
      (pss_cons (ps_set (i := 3) sc__law_draw.nd rfl (Or.inl rfl) (pe_ix (r := rIxL K) ix_list (pe_lst (pa_cons pe_int (pa_cons pe_int (pa_cons pe_int (pa_cons pe_int (pa_cons pe_int (pa_cons pe_int (pa_cons pe_int pa_nil)))))))) (pe_op op_mod (pe_ix (r := rIxL K) ix_list (pv 0) pe_int (fun _ _ => rfl)) pe_int) (fun _ _ => rfl)))
      (pss_cons (ps_set (i := 4) sc__law_draw.nd rfl (Or.inl rfl) (pe_op op_mod (pe_op op_pow (pe_op op_add (pe_op op_add (pe_ix (r := rIxL K) ix_list (pv 0) pe_int (fun _ _ => rfl)) (pe_op op_mul pe_int (pe_ix (r := rIxL K) ix_list (pv 0) pe_int (fun _ _ => rfl)))) pe_int) pe_int) (pv 3)))
      (pss_cons (ps_set (i := 4) sc__law_draw.nd rfl (Or.inl rfl) (pe_op op_mod (pe_op op_mul (pe_op op_add (pv 4) (pe_ix (r := rIxL K) ix_list (pv 0) pe_int (fun _ _ => rfl))) (pe_op op_add (pe_op op_fdiv (pv 4) pe_int) pe_int)) (pv 3)))
      (pss_one (ps_ret (pe_op op_mod (pe_op op_fdiv (pv 4) pe_int) (pv 1)))))))))), ?_⟩
  have va : ∀ F, rRef F (.ref a) a := fun F => rfl
  have ri : ∀ F (i : Int), rInt F (.int i) i := fun F i => rfl
  walk_at "n"
  refine x_if e (et_test (ev_gt (ev_ixM (ev_var rfl (va _)) ev_int hs rfl (ri _ n)) ev_int)) (fun hb F1 H1 g1 => ?_) (fun hb F1 H1 g1 => ?_)
  · have hs1 := g1.hx _ _ hs
    have fa1 := g1.nn hs fa
    obtain ⟨d, hd, hdm⟩ := nat_of_mod (i := n) m0
    walk_at "n"
    refine x_set g1.fh (ev_mod (ev_ixM (ev_var rfl (va _)) ev_int hs1 rfl (ri _ n)) (ev_var rfl (ri _ m)) (by omega)) fun v2 F2 H2 g2 r2 => ?_
    cases (show v2 = _ from r2)
    walk_at "n"
    refine x_setI (n := 0) g2.fh (ev_fdiv (ev_ixM (ev_var rfl (va _)) ev_int (g2.hx _ _ hs1) rfl (ri _ n)) (ev_var rfl (ri _ m)) ⟨by omega, by omega⟩) (ev_var rfl (va _)) ev_int (g2.hx _ _ hs1) (by show 0 < 3; decide) fun v3 F3 H3 g3 r3 hl3 => ?_
    cases (show v3 = _ from r3)
    have fa3 := g3.nn (g2.hx _ _ hs1) (g2.nn hs1 fa1)
    have g4 : Gr (El.M1 a) F H F3 _ := ((g1.trans (g2.trans g3)).up).set' (o := .lst [.int (n / (m : Int)), .int c, .int kk]) fa3 (.inr rfl)
    refine x_ret g4.fh (ev_var rfl (ri _ (n % (m : Int)))) fun v5 F5 H5 g5 r5 => ?_
    refine k v5 d F5 H5 (g4.trans g5.up) (g5.nn upd_same fa3) ?_ hdm (by rw [hd] at r5; exact r5)
    exact ⟨n / m, c, kk, g5.hx _ _ upd_same, Int.ediv_nonneg n0 (by omega), c0, c1, k0, by omega⟩
  · have hs1 := g1.hx _ _ hs
    have fa1 := g1.nn hs fa
    walk_at "n"
    refine x_setI (n := 2) g1.fh (ev_add (ev_ixM (ev_var rfl (va _)) ev_int hs1 rfl (ri _ kk)) ev_int) (ev_var rfl (va _)) ev_int hs1 (by show 2 < 3; decide) fun v3 F3 H3 g3 r3 hl3 => ?_
    cases (show v3 = _ from r3)
    have fa3 := g3.nn hs1 fa1
    have g4 : Gr (El.M1 a) F H F3 _ := ((g1.trans g3).up).set' (o := .lst [.int n, .int c, .int (kk + 1)]) fa3 (.inr rfl)
    obtain ⟨p, hp, p0, p1⟩ := prime_at (kk + 1)
    walk_at "n"
    refine x_set (R := rInt) (x := p) g4.fh (ev_ixL (ev_lst (R := rInt) (el_cons ev_int (el_cons ev_int (el_cons ev_int (el_cons ev_int (el_cons ev_int (el_cons ev_int (el_cons ev_int el_nil))))))) (by show 7 ≤ sizeLine; decide)) (ev_mod (ev_ixM (ev_var rfl (va _)) ev_int upd_same rfl (ri _ (kk + 1))) ev_int (by decide)) hp) fun v5 F5 H5 g5 r5 => ?_
    cases (show v5 = _ from r5)
    have hs5 := g5.hx _ _ (upd_same (H := H3) (a := a) (o := .lst [.int n, .int c, .int (kk + 1)]))
    walk_at "n"
    refine x_set g5.fh (ev_mod (ev_pow (ev_add (ev_add (ev_ixM (ev_var rfl (va _)) ev_int hs5 rfl (ri _ c)) (ev_mul ev_int (ev_ixM (ev_var rfl (va _)) ev_int hs5 rfl (ri _ (kk + 1))) (.inl ⟨by decide, by decide⟩))) ev_int) ev_int ⟨by decide, by decide, by omega⟩) (ev_var rfl (ri _ p)) p0) fun v6 F6 H6 g6 r6 => ?_
    generalize hx : (c + 7919 * (kk + 1) + 1) ^ (5 : Int).toNat % p = x at r6
    have x0 : 0 ≤ x := by rw [← hx]; exact Int.emod_nonneg _ (by omega)
    have x1 : x < p := by rw [← hx]; exact Int.emod_lt_of_pos _ p0
    cases (show v6 = _ from r6)
    have hs6 := g6.hx _ _ hs5
    walk_at "n"
    refine x_set g6.fh (ev_mod (ev_mul (ev_add (ev_var rfl (ri _ x)) (ev_ixM (ev_var rfl (va _)) ev_int hs6 rfl (ri _ (kk + 1)))) (ev_add (ev_fdiv (ev_var rfl (ri _ x)) ev_int ⟨by decide, by decide⟩) ev_int) (.inr ⟨by omega, by omega⟩)) (ev_var rfl (ri _ p)) p0) fun v7 F7 H7 g7 r7 => ?_
    generalize hy : (x + (kk + 1)) * (x / 1009 + 69621) % p = y at r7
    cases (show v7 = _ from r7)
    obtain ⟨d, hd, hdm⟩ := nat_of_mod (i := y / 7) m0
    walk_at "n"
    refine x_ret g7.fh (ev_mod (ev_fdiv (ev_var rfl (ri _ y)) ev_int ⟨by decide, by decide⟩) (ev_var rfl (ri _ m)) (by omega)) fun v8 F8 H8 g8 r8 => ?_
    have G := g5.trans (g6.trans (g7.trans g8))
    refine k v8 d F8 H8 (g4.trans G.up) (G.nn upd_same fa3) ?_ hdm (by rw [hd] at r8; exact r8)
    exact ⟨n, c, kk + 1, G.hx _ _ upd_same, n0, c0, c1, by omega, by omega⟩

abbrev sp__law_above (T : Tx K mg) : Sp := SpR2 rNat (rLst (rPr rNat rNat)) (fun n ps => n ≤ 60 ∧ ps.length < 64 ∧ ∀ p ∈ ps, p.1 < n ∧ p.2 < n) (rLst (rLst rNat)) (fun n ps hs => AbvR n ps hs)
theorem ok__law_above (T : Tx K mg) : FnOk P w K mg base CX0 1 T.a__law_above T.d__law_above ["_law_many", "_law_pairs_here"] (sp__law_above T) := by
  refine T.F__law_above.ok sc__law_above (fun vs H Q E h => SpLen.len h) (fun cdv A outer s H vs Q E hr h => ?_)
  obtain ⟨F, v, w, n, ps, rfl, e, r1, r2, ⟨hn, hpl, hp⟩, k⟩ := h
  cases (show v = _ from r1)
  have ri : ∀ F (i : Int), rInt F (.int i) i := fun F i => rfl
  have rn : ∀ F (i : Nat), rNat F (.int (i : Int)) i := fun F i => rfl
  refine ⟨_, (by exact (pss_cons (ps_set (i := 2) sc__law_above.nd rfl (Or.inl rfl) (pe_lst pa_nil))
      (pss_cons (ps_for PassesOwn.never rfl (pi_range1 rfl T.z_range (pa_cons (pv 0) pa_nil)) (pg_name (i := 3) sc__law_above.nd rfl (by first | exact Or.inl rfl | exact Or.inr rfl)) (pss_cons (ps_set (i := 4) sc__law_above.nd rfl (Or.inr rfl) (ksortset (K := K) (by rfl) T.z_sorted (by rfl) T.z_set (pe_lc (own := [("_law_x", 5), ("_law_y", 6)]) (g := gTup K 2 (gCons (gName 5) (gCons (gName 6) gNil))) (tt := _) rfl sc__law_above.nd (klist K (pv 1)) (blkOk_by (own := [("_law_x", 5), ("_law_y", 6)]) (N := N__law_above) (sc := defScope s__law_above) (by decide +kernel)) (fun _ _ _ _ _ => (kptup K (n := 2) rfl (pgs_cons (pg_name (i := 5) sc__law_above.nd rfl (by first | exact Or.inl rfl | exact Or.inr rfl)) (pgs_cons (pg_name (i := 6) sc__law_above.nd rfl (by first | exact Or.inl rfl | exact Or.inr rfl)) pgs_nil)))) (fun _ _ _ _ _ => (pts_one (pt_cmpR op_eq (pv 5) (pv 3) (nomark _)))) (fun _ _ _ _ _ => (pv 6)))))
      (pss_cons (ps_set (i := 7) sc__law_above.nd rfl (Or.inr rfl) pe_int)
      (pss_cons (ps_while PassesOwn.never (pt_cmpR op_lt (pv 7) (pe_callB (r := rLenS K) call_len_seq (by rfl) T.z_len PySem.boot_len (pa_cons (pv 4) pa_nil)) (nomark _)) (pss_cons (ps_set (i := 8) sc__law_above.nd rfl (Or.inl rfl) (ksortset (K := K) (by rfl) T.z_sorted (by rfl) T.z_set (pe_lc (own := [("_law_x", 5), ("_law_y", 6)]) (g := gTup K 2 (gCons (gName 5) (gCons (gName 6) gNil))) (tt := _) rfl sc__law_above.nd (klist K (pv 1)) (blkOk_by (own := [("_law_x", 5), ("_law_y", 6)]) (N := N__law_above) (sc := defScope s__law_above) (by decide +kernel)) (fun _ _ _ _ _ => (kptup K (n := 2) rfl (pgs_cons (pg_name (i := 5) sc__law_above.nd rfl (by first | exact Or.inl rfl | exact Or.inr rfl)) (pgs_cons (pg_name (i := 6) sc__law_above.nd rfl (by first | exact Or.inl rfl | exact Or.inr rfl)) pgs_nil)))) (fun _ _ _ _ _ => (pts_one (pt_cmpR op_eq (pv 5) (pe_ix (r := rIxL K) ix_list (pv 4) (pv 7) (fun _ _ => rfl)) (nomark _)))) (fun _ _ _ _ _ => (pv 6)))))
      (pss_cons (ps_set (i := 4) sc__law_above.nd rfl (Or.inr rfl) (pe_op op_cat (pv 4) (pe_lc (own := [("_law_y", 6)]) (g := gName 6) (tt := _) rfl sc__law_above.nd (klist K (pv 8)) (blkOk_by (own := [("_law_y", 6)]) (N := N__law_above) (sc := defScope s__law_above) (by decide +kernel)) (fun _ _ _ _ _ => (pg_name (i := 6) sc__law_above.nd rfl (by first | exact Or.inl rfl | exact Or.inr rfl))) (fun _ _ _ _ _ => (pts_one (pt_cmpR (r := rIn K true) op_notIn_seq (pv 6) (pv 4) (by rfl)))) (fun _ _ _ _ _ => (pv 6)))))
      (pss_one (ps_set (i := 7) sc__law_above.nd rfl (Or.inr rfl) (pe_op op_add (pv 7) pe_int))))))
      (pss_one (ps_expr (kbm K PySem.F.plainAttrs_list PySem.F.slot_list_append PySem.F.type_list_append mt_append (pv 2) (pa_cons (pv 4) pa_nil))))))))
      (pss_one (ps_ret (pv 2)))))), ?_⟩
  walk_at "n"
  refine x_nil e fun l hl => ?_
  have fl0 : F l = none := e.free hl
  have G0 : Gr M0 F H F (upd H l (.lst [])) := .loc e hl
  walk_at "n"
  refine x_forR (n := n) G0.fh (ev_var rfl (ri _ (n : Int))) (by omega)
    (fun i σ' F' H' => Gr M0 F H F' H' ∧ F' l = none ∧ (∃ vs hs, H' l = some (.lst vs) ∧ Paired (rLst rNat F') vs hs ∧ hs.length = i ∧ ∀ x, x < i → (hs.getD x []).Nodup ∧ ∀ y, y ∈ hs.getD x [] ↔ Blw ps x y) ∧ ∃ y3 y4 y5 y6 y7 y8, σ' = [some (.int (n : Int)), some w, some (.ref l), y3, y4, y5, y6, y7, y8])
    (fun F2 H2 g2 => ⟨G0.trans g2, g2.nn upd_same fl0, ⟨[], [], g2.hx _ _ upd_same, .nil, rfl, fun x hx => absurd hx (Nat.not_lt_zero x)⟩, _, _, _, _, _, _, rfl⟩) ?_ ?_
  · rintro F2 e2 i σ' F' H' hi e3 e4 ⟨g, fl, ⟨vs, hs, hL, pv, hlen, hrow⟩, y3, y4, y5, y6, y7, y8, rfl⟩
    have sel : ∀ (z4 z7 z8 : Option V) (x : Nat) (te : TE) F5 H5, Gr M0 F H F5 H5 → (∀ v6 v7 F6 H6, Gr M0 F5 H5 F6 H6 → Ev rInt te [some (.int (n : Int)), some w, some (.ref l), some (.int (i : Int)), z4, some v6, some v7, z7, z8] F6 H6 (x : Int)) →
        Ev (rLst rNat) (tSortSet K (tLc (iList K (tVar 1)) (gTup K 2 (gCons (gName 5) (gCons (gName 6) gNil))) (tTest (tOp rEq (tVar 5) te)) (tVar 6) [5, 6])) [some (.int (n : Int)), some w, some (.ref l), some (.int (i : Int)), z4, y5, y6, z7, z8] F5 H5 (rowM ps x) := fun z4 z7 z8 x te F5 H5 g5 hte =>
      ev_sortSet (ev_lcPF (R := rNat) (S := rNat) (U := rNat) (fun p => decide (p.1 = x)) (·.2) (ev_var rfl (Mn.mono g5.ff r2)) (by omega) (fun v w => rfl) (fun j p v6 v7 F6 H6 hx g6 q1 q2 => EvT.is (et_test (ev_eqI (ev_var rfl (show rInt _ _ (p.1 : Int) from q1)) (hte v6 v7 F6 H6 g6))) (decide_eq_decide.mpr (by omega))) fun j p v6 v7 F6 H6 hx hpp g6 q1 q2 => ev_var rfl q2) (Nat.lt_of_le_of_lt out_len (by omega))
    walk_at "n"
    refine x_set (R := rLst rNat) (x := rowM ps i) e4 (sel _ _ _ i _ F' H' g fun v6 v7 F6 H6 g6 => ev_var rfl (ri _ (i : Int))) fun v4 F3 H3 g3 r4 => ?_
    walk_at "n"
    refine x_set (R := rInt) (x := 0) g3.fh ev_int fun v5 F4 H4 g4 r5 => ?_
    cases (show v5 = _ from r5)
    have g34 := g3.trans g4
    walk_at "n"
    refine x_while g4.fh (fun m σ' F'' H'' => Gr M0 F' H' F'' H'' ∧ ∃ (c : Nat) (row : List Nat) (u4 : V) (z5 z6 z8 : Option V), m = n - c ∧ RowI ps i c row ∧ rLst rNat F'' u4 row ∧ σ' = [some (.int (n : Int)), some w, some (.ref l), some (.int (i : Int)), some u4, y5, y6, some (.int (c : Int)), z8])
      n ⟨g34, 0, rowM ps i, v4, none, none, _, by omega, RowI.start, Mn.mono g4.ff r4, rfl⟩
      (fun m σ' F'' H'' => match σ' with
        | [_, _, _, _, some (.ref p), _, _, some (.int c), _] => match F'' p with
          | some (.lst vs) => decide (c < (vs.length : Int))
          | _ => false
        | _ => false) ?_ ?_ ?_ ?_
    · rintro m σ' F5 H5 e5 e6 ⟨g5, c, row, u4, z5, z6, z8, rfl, hR, ru, rfl⟩
      obtain ⟨p, us, rfl, hp', pu⟩ := id ru
      refine EvT.is (et_test (ev_lt (ev_var rfl (ri _ (c : Int))) (ev_lenL (ev_var rfl ru)))) ?_
      show _ = match F5 p with | some (.lst vs) => decide ((c : Int) < (vs.length : Int)) | _ => false
      rw [hp']
      show _ = decide ((c : Int) < (us.length : Int))
      rw [pu.length]
    · rintro m σ' F5 H5 F6 H6 g6 ⟨g5, c, row, u4, z5, z6, z8, rfl, hR, ru, rfl⟩
      exact ⟨g5.trans g6, c, row, u4, z5, z6, z8, rfl, hR, Mn.mono g6.ff ru, rfl⟩
    · rintro m σ' F5 H5 F6 H6 e5 g6 hb ⟨g5, c, row, u4, z5, z6, z8, rfl, hR, ru, rfl⟩ -
      have hc : c < row.length := by
        obtain ⟨p, us, rfl, hp', pu⟩ := id ru
        have hb : (match F5 p with | some (.lst vs) => decide ((c : Int) < (vs.length : Int)) | _ => false) = true := hb
        rw [hp'] at hb
        have hb : decide ((c : Int) < (us.length : Int)) = true := hb
        rw [pu.length] at hb
        have := of_decide_eq_true hb
        omega
      have hrl := hR.len hp
      have ru := Mn.mono g6.ff ru
      have hy : row[c]? = some row[c] := List.getElem?_eq_getElem hc
      have hst := hR.step hy
      generalize row[c] = y at hy hst
      have g56 := g5.trans g6
      walk_at "n"
      refine x_set (R := rLst rNat) (x := rowM ps y) g6.fh (sel _ _ _ y _ F6 H6 (g.trans g56) fun v6 v7 F7 H7 g7 => (ev_ixL (ev_var rfl (Mn.mono g7.ff ru)) (ev_var rfl (ri _ (c : Int))) (atI_natL hy)).nat) fun v8 F7 H7 g7 r8 => ?_
      have ru7 := Mn.mono g7.ff ru
      walk_at "n"
      refine x_set (R := rLst rNat) (x := row ++ (rowM ps y).filter fun z => !decide (z ∈ row)) g7.fh (ev_cat (ev_var rfl ru7) (Ev.is (ev_lcF (R := rNat) (U := rNat) (fun z => !decide (z ∈ row)) (fun z => z) (ev_var rfl r8) (by unfold rowM; rw [sort_len]; exact Nat.le_trans (nodup_lt (n := n) (nodup_uniq _) fun z hz => (hp _ (out_mem.mp (mem_uniq.mp hz))).2) (by omega)) (fun v => rfl) (fun j z v6 F8 H8 hx g8 q => ?_) fun j z v6 F8 H8 hx hpp g8 q => ev_var rfl q) (List.map_id' _)) ?_) fun v9 F8 H8 g8 r9 => ?_
      · exact et_test (ev_inL (neg := true) (ev_var rfl q) (ev_var rfl (Mn.mono g8.ff ru7)))
      · have := hst.len hp
        rw [List.length_append] at this
        rw [sizeLine_eq]
        omega
      walk_at "n"
      refine x_set (R := rInt) (x := ((c + 1 : Nat) : Int)) g8.fh (Ev.is (ev_add (ev_var rfl (ri _ (c : Int))) ev_int) (by omega)) fun v10 F9 H9 g9 r10 => ?_
      cases (show v10 = _ from r10)
      have g79 := g7.trans (g8.trans g9)
      refine ⟨F9, n - (c + 1), e5.trans (g6.ff.trans g79.ff), g9.fh, by omega, g56.trans g79, c + 1, _, v9, none, none, _, rfl, hst, Mn.mono g9.ff r9, rfl⟩
    · rintro m σ' F5 H5 F6 H6 e5 g6 hb ⟨g5, c, row, u4, z5, z6, z8, rfl, hR, ru, rfl⟩ -
      have hc : ¬ c < row.length := fun hc => by
        obtain ⟨p, us, rfl, hp', pu⟩ := id ru
        have hb : (match F5 p with | some (.lst vs) => decide ((c : Int) < (vs.length : Int)) | _ => false) = false := hb
        rw [hp'] at hb
        have hb : decide ((c : Int) < (us.length : Int)) = false := hb
        rw [pu.length] at hb
        have := of_decide_eq_false hb
        omega
      have hce : c = row.length := by have := hR.le; omega
      subst hce
      have g56 := g5.trans g6
      have hL6 := g56.hx _ _ hL
      have fl6 := g56.nn hL fl
      walk_at "n"
      refine x_app (R := rLst rNat) (x := row) g6.fh (ev_var rfl (show rRef _ _ l from rfl)) hL6 (ev_var rfl (Mn.mono g6.ff ru)) (by rw [pv.length, hlen, sizeLine_eq]; omega) fun v9 F7 H7 g7 r9 h9 => ?_
      have G7 := (g.trans (g56.trans g7)).set' (o := .lst (vs ++ [v9])) (g7.nn hL6 fl6) (.inl hl)
      refine ⟨F7, e3.trans (g56.ff.trans g7.ff), G7.fh, G7, g7.nn hL6 fl6, ⟨_, hs ++ [row], upd_same, (Paired.up (g56.ff.trans g7.ff) pv).snoc r9, by rw [List.length_append, hlen]; rfl, fun x hx => ?_⟩, _, _, _, _, _, _, rfl⟩
      by_cases hxi : x < i
      · rw [List.getD_eq_getElem?_getD, List.getElem?_append_left (by omega), ← List.getD_eq_getElem?_getD]
        exact hrow x hxi
      · have hxe : x = hs.length := by omega
        rw [List.getD_eq_getElem?_getD, hxe, List.getElem?_append_right (Nat.le_refl _), Nat.sub_self]
        show row.Nodup ∧ ∀ y, y ∈ row ↔ Blw ps hs.length y
        rw [hlen]
        exact ⟨hR.nd, hR.done⟩
  · rintro σ' F' H' e1 e2 ⟨g, fl, ⟨vs, hs, hL, pv, hlen, hrow⟩, y3, y4, y5, y6, y7, y8, rfl⟩
    have gf := g.frz hL (Ex.free g.ff fl) (.inl hl)
    walk_at "n"
    exact x_ret gf.fh (ev_var rfl (show rLst (rLst rNat) _ _ hs from ⟨l, _, rfl, upd_same, Paired.up (Ex.new fl) pv⟩)) fun v' F2 H2 g2 r2 => k v' hs F2 H2 (gf.trans g2) ⟨hlen, hrow⟩ r2
abbrev sp__law_ranking (T : Tx K mg) : Sp := SpS1 60 rNat (fun n => n ≤ 60) (rLst rNat) (fun n r => r.Perm (List.range n))
theorem ok__law_ranking (T : Tx K mg) : FnOk P w K mg base CX0 2 T.a__law_ranking T.d__law_ranking ["_law_well_here", "_law_many"] (sp__law_ranking T) := by
  refine T.F__law_ranking.ok sc__law_ranking (fun vs H Q E h => SpLen.len h) (fun cdv A outer s H vs Q E hr h => ?_)
  obtain ⟨F, a, N, v, n, rfl, e, fa, s, r1, hn, k⟩ := h
  cases (show v = _ from r1)
  have ri : ∀ F (i : Int), rInt F (.int i) i := fun F i => rfl
  refine ⟨_, (by exact (pss_cons (ps_set (i := 2) sc__law_ranking.nd rfl (Or.inl rfl) (pe_listRg rfl (by rfl) T.z_list (prg_1 (by rfl) T.z_range (pv 1))))
      (pss_cons (ps_set (i := 3) sc__law_ranking.nd rfl (Or.inl rfl) (pe_lst pa_nil))
      (pss_cons (ps_while PassesOwn.never (pt_cmpR (r := rNeD K) (op_neD hr.units) (pv 2) (pe_lst pa_nil) (nomark _)) (pss_one (ps_expr (kbm K PySem.F.plainAttrs_list PySem.F.slot_list_append PySem.F.type_list_append mt_append (pv 3) (pa_cons (kbm K PySem.F.plainAttrs_list PySem.F.slot_list_pop PySem.F.type_list_pop mt_popAt (pv 2) (pa_cons (pe_call (ok__law_draw T) (hr.mono (by decide)) rfl T.g__law_draw T.F__law_draw.kp T.b__law_draw .nil pass0 (pa_cons (pv 0) (pa_cons (pe_callB (r := rLenS K) call_len_seq (by rfl) T.z_len PySem.boot_len (pa_cons (pv 2) pa_nil)) pa_nil))) pa_nil)) pa_nil)))))
      (pss_one (ps_ret (pv 3))))))), ?_⟩
  walk_at "n"
  refine x_lstRgM (n := n) e (ev_var rfl (ri _ (n : Int))) (by omega) fun l F1 H1 g1 hl => ?_
  obtain ⟨o0, ho0⟩ := s.someO
  have s1 := s.gr g1
  have fa1 := g1.nn ho0 fa
  have hne : l ≠ a := fun z => by subst z; exact s1.hn hl
  have hl0 : H l = none := Ex.free g1.hx hl
  have fl1 : F1 l = none := g1.fh.free hl
  have G1 : Gr (El.M1 a) F H F1 (upd H1 l (.lst ((List.range n).map fun n : Nat => V.int (n : Int)))) := g1.up.trans (.loc g1.fh hl)
  have s1' := s1.ex (H' := upd H1 l (.lst ((List.range n).map fun n : Nat => V.int (n : Int)))) (upd_ne hne.symm)
  walk_at "n"
  refine x_nil G1.fh fun f hf => ?_
  have hfa : f ≠ a := fun z => by subst z; exact s1'.hn hf
  have hfl : f ≠ l := fun z => by subst z; rw [upd_same] at hf; cases hf
  have ff1 : F1 f = none := G1.fh.free hf
  have hf0 : H f = none := by
    cases q : H f with
    | none => rfl
    | some o => exact absurd hf (G1.dm f (by rw [q]; exact fun z => nomatch z))
  have G2 := G1.trans (.loc (o := .lst []) G1.fh hf)
  have s2 := s1'.ex (H' := upd (upd H1 l (.lst ((List.range n).map fun n : Nat => V.int (n : Int)))) f (.lst [])) (upd_ne hfa.symm)
  walk_at "n"
  refine x_while G2.fh (fun m σ' F' H' => Gr (El.M1 a) F H F' H' ∧ F' a = none ∧ Src H' a (N + m) ∧ F' l = none ∧ F' f = none ∧ ∃ rest dn : List Nat, m = rest.length ∧ H' l = some (.lst (rest.map fun n : Nat => V.int (n : Int))) ∧ H' f = some (.lst (dn.map fun n : Nat => V.int (n : Int))) ∧ (dn ++ rest).Perm (List.range n) ∧ σ' = [some (.ref a), some (.int (n : Int)), some (.ref l), some (.ref f)])
    n ⟨G2, fa1, s2.le (by omega), fl1, ff1, List.range n, [], by rw [List.length_range], by rw [upd_ne hfl.symm, upd_same], upd_same, .refl _, rfl⟩ (fun m _ _ _ => !decide (m = 0)) ?_ ?_ ?_ ?_
  · rintro m σ' F' H' e1 e2 ⟨g, fa', s', fl, ff, rest, dn, rfl, hL, hF, hp, rfl⟩
    refine EvT.is (et_test (ev_neNilM (ev_var rfl (show rRef _ _ l from rfl)) hL)) ?_
    cases rest <;> rfl
  · rintro m σ' F' H' F2 H2 g2 ⟨g, fa', s', fl, ff, rest, dn, rfl, hL, hF, hp, rfl⟩
    obtain ⟨o, ho⟩ := s'.someO
    exact ⟨g.trans g2.up, g2.nn ho fa', s'.gr g2, g2.nn hL fl, g2.nn hF ff, rest, dn, rfl, g2.hx _ _ hL, g2.hx _ _ hF, hp, rfl⟩
  · rintro m σ' F0 H0 F' H' e5 g6 hb - ⟨g, fa', s', fl, ff, rest, dn, rfl, hL, hF, hp, rfl⟩
    have hpos : 0 < rest.length := by
      cases rest with
      | nil => cases hb
      | cons _ _ => exact Nat.succ_pos _
    have hlen := hp.length_eq
    rw [List.length_append, List.length_range] at hlen
    walk_at "n"
    refine ⟨.ref f, rfl, .inl ⟨rfl, _, SqL.of hF⟩, .ref l, rfl, .inl ⟨rfl, _, SqL.of hL⟩, ?_⟩
    refine (es_callP (x := rest.length) rfl (fun F5 H5 g5 _ => Ev.toNat (Ev.is (ev_lenM (ev_var rfl (show rRef _ _ l from rfl)) (g5.hh _ _ hne hL)) (by rw [List.length_map]))) ⟨by omega, by omega⟩) F' H' (N + (rest.length - 1)) (.refl g.fh) fa' (s'.le (by omega)) _ fun v3 d F3 H3 g3 fa3 s3 hd r3 => ?_
    cases (show v3 = _ from r3)
    have hd : d < rest.length := hd
    have hL3 := g3.hh _ _ hne hL
    have fl3 := g3.nw l hne (by rw [hL]; exact fun z => nomatch z) fl
    have hF3 := g3.hh _ _ hfa hF
    have ff3 := g3.nw f hfa (by rw [hF]; exact fun z => nomatch z) ff
    obtain ⟨x, hx⟩ : ∃ x, rest[d]? = some x := ⟨_, List.getElem?_eq_getElem hd⟩
    have hy : (rest.map fun n : Nat => V.int (n : Int))[d]? = some (.int (x : Int)) := by rw [List.getElem?_map, hx]; rfl
    refine ⟨l, _, (d : Int), d, .int (x : Int), rfl, rfl, hL3, by omega, by omega, seqIx (by rw [List.length_map]; exact hd), hy, f, _, .int (x : Int), rfl, rfl, by rw [upd_ne hfl]; exact hF3, by rw [List.length_map, sizeLine_eq]; omega, ?_⟩
    have Ga := (g.trans g3).set' (o := .lst ((rest.map fun n : Nat => V.int (n : Int)).eraseIdx d)) fl3 (.inl hl0)
    have Gb := Ga.set' (o := .lst ((dn.map fun n : Nat => V.int (n : Int)) ++ [.int (x : Int)])) ff3 (.inl hf0)
    have hre : (rest.eraseIdx d).length = rest.length - 1 := by rw [List.length_eraseIdx, if_pos hd]
    refine ⟨F3, rest.length - 1, e5.trans (g6.ff.trans g3.ff), Gb.fh, by omega, Gb, fa3, (s3.ex (upd_ne hne.symm)).ex (upd_ne hfa.symm), fl3, ff3, rest.eraseIdx d, dn ++ [x], hre.symm, by rw [upd_ne hfl.symm, upd_same, erase_map], by rw [upd_same, List.map_append]; rfl, ?_, rfl⟩
    rw [List.append_assoc]
    exact (List.Perm.append_left dn (erase_perm hx)).trans hp
  · rintro m σ' F0 H0 F' H' e5 g6 hb - ⟨g, fa', s', fl, ff, rest, dn, rfl, hL, hF, hp, rfl⟩
    have hr : rest = [] := by
      cases rest with
      | nil => rfl
      | cons _ _ => cases hb
    subst hr
    rw [List.append_nil] at hp
    have gf := g.frz hF (Ex.free g.ff ff) (.inl hf0)
    walk_at "n"
    exact x_retS (c := 0) (es_pure (x := dn) fun F5 H5 g5 _ => ev_var rfl (show rLst rNat F5 (.ref f) dn from ⟨f, _, rfl, g5.ff _ _ upd_same, nats_P _ _⟩)) gf.fh (by rw [upd_ne hfa.symm]; exact fa') s' (Nat.zero_le _) fun v' y F6 H6 g7 fa6 s6 py ry => k v' dn F6 H6 (gf.trans g7) fa6 (s6.le (by omega)) hp (by rw [← (show y = dn from py)]; exact ry)

abbrev sp__law_pairs (T : Tx K mg) : Sp := SpS1 20 (rLst rNat) (fun r => 1 ≤ r.length ∧ r.length ≤ 7) (rLst (rPr rNat rNat)) (fun r ps => ps.length ≤ 40 ∧ ∀ p ∈ ps, RkLt r p.1 p.2)
theorem ok__law_pairs (T : Tx K mg) : FnOk P w K mg base CX0 2 T.a__law_pairs T.d__law_pairs ["_law_well_here", "_law_ranking_here"] (sp__law_pairs T) := by
  refine T.F__law_pairs.ok sc__law_pairs (fun vs H Q E h => SpLen.len h) (fun cdv A outer s H vs Q E hr h => ?_)
  obtain ⟨F, a, N, v, r, rfl, e, fa, s, r1, ⟨hr0, hr7⟩, k⟩ := h
  have ri : ∀ F (i : Int), rInt F (.int i) i := fun F i => rfl
  have rn : ∀ F (i : Nat), rNat F (.int (i : Int)) i := fun F i => rfl
  refine ⟨_, (by exact (pss_cons (ps_set (i := 2) sc__law_pairs.nd rfl (Or.inl rfl) (pe_callB (r := rLenS K) call_len_seq (by rfl) T.z_len PySem.boot_len (pa_cons (pv 1) pa_nil)))
      (pss_cons (ps_set (i := 3) sc__law_pairs.nd rfl (Or.inl rfl) (pe_call (ok__law_draw T) (hr.mono (by decide)) rfl T.g__law_draw T.F__law_draw.kp T.b__law_draw .nil pass0 (pa_cons (pv 0) (pa_cons pe_int pa_nil))))
      (pss_cons (ps_if (pt_cmpR op_eq (pv 3) pe_int (nomark _)) (pss_one (ps_ret (pe_lc (own := [("_law_k", 4)]) (g := gName 4) (tt := tYes) rfl sc__law_pairs.nd (pi_range1 rfl T.z_range (pa_cons (pe_op op_sub (pv 2) pe_int) pa_nil)) (blkOk_by (own := [("_law_k", 4)]) (N := N__law_pairs) (sc := defScope s__law_pairs) (by decide +kernel)) (fun _ _ _ _ _ => (pg_name (i := 4) sc__law_pairs.nd rfl (by first | exact Or.inl rfl | exact Or.inr rfl))) (fun _ _ _ _ _ => pts_nil) (fun _ _ _ _ _ => (pe_tup (pa_cons (pe_ix (r := rIxL K) ix_list (pv 1) (pv 4) (fun _ _ => rfl)) (pa_cons (pe_ix (r := rIxL K) ix_list (pv 1) (pe_op op_add (pv 4) pe_int) (fun _ _ => rfl)) pa_nil))))))) pss_nil)
      (pss_cons (ps_set (i := 5) sc__law_pairs.nd rfl (Or.inl rfl) (pe_lst pa_nil))
      (pss_cons (ps_for PassesOwn.never rfl (pi_range1 rfl T.z_range (pa_cons (pe_op op_mul (pe_call (ok__law_draw T) (hr.mono (by decide)) rfl T.g__law_draw T.F__law_draw.kp T.b__law_draw .nil pass0 (pa_cons (pv 0) (pa_cons pe_int pa_nil))) (pe_callTy call_int1 (by rfl) T.z_int (by decide +kernel) (pa_cons (pe_cmpR op_gt (pv 2) pe_int (nomark _)) pa_nil))) pa_nil)) (pg_name (i := 4) sc__law_pairs.nd rfl (by first | exact Or.inl rfl | exact Or.inr rfl)) (pss_cons (ps_set (i := 6) sc__law_pairs.nd rfl (Or.inl rfl) (pe_call (ok__law_draw T) (hr.mono (by decide)) rfl T.g__law_draw T.F__law_draw.kp T.b__law_draw .nil pass0 (pa_cons (pv 0) (pa_cons (pe_op op_sub (pv 2) pe_int) pa_nil))))
      (pss_one (ps_expr (kbm K PySem.F.plainAttrs_list PySem.F.slot_list_append PySem.F.type_list_append mt_append (pv 5) (pa_cons (pe_tup (pa_cons (pe_ix (r := rIxL K) ix_list (pv 1) (pv 6) (fun _ _ => rfl)) (pa_cons (pe_ix (r := rIxL K) ix_list (pv 1) (pe_op op_add (pe_op op_add (pv 6) pe_int) (pe_call (ok__law_draw T) (hr.mono (by decide)) rfl T.g__law_draw T.F__law_draw.kp T.b__law_draw .nil pass0 (pa_cons (pv 0) (pa_cons (pe_op op_sub (pe_op op_sub (pv 2) pe_int) (pv 6)) pa_nil)))) (fun _ _ => rfl)) pa_nil))) pa_nil))))))
      (pss_cons (ps_if (pt_cmpR op_eq (pv 3) pe_int (nomark _)) (pss_cons (ps_for PassesOwn.never rfl (klist K (pe_slice (r := rSlL K) sl_list (pv 1) (po_some pe_int) (po_some (pe_un un_neg pe_int)))) (pg_name (i := 7) sc__law_pairs.nd rfl (by first | exact Or.inl rfl | exact Or.inr rfl)) (pss_one (ps_set (i := 5) sc__law_pairs.nd rfl (Or.inl rfl) (pe_op op_cat (pv 5) (pe_lst (pa_cons (pe_tup (pa_cons (pe_ix (r := rIxL K) ix_list (pv 1) pe_int (fun _ _ => rfl)) (pa_cons (pv 7) pa_nil))) (pa_cons (pe_tup (pa_cons (pv 7) (pa_cons (pe_ix (r := rIxL K) ix_list (pv 1) (pe_un un_neg pe_int) (fun _ _ => rfl)) pa_nil))) pa_nil)))))))
      (pss_one (ps_set (i := 5) sc__law_pairs.nd rfl (Or.inl rfl) (pe_op op_cat (pv 5) (pe_op op_rep (pe_lst (pa_cons (pe_tup (pa_cons (pe_ix (r := rIxL K) ix_list (pv 1) pe_int (fun _ _ => rfl)) (pa_cons (pe_ix (r := rIxL K) ix_list (pv 1) (pe_un un_neg pe_int) (fun _ _ => rfl)) pa_nil))) pa_nil)) (pe_callTy call_int1 (by rfl) T.z_int (by decide +kernel) (pa_cons (pe_cmpR op_gt (pv 2) pe_int (nomark _)) pa_nil))))))) pss_nil)
      (pss_one (ps_ret (pv 5)))))))))), ?_⟩
  walk_at "n"
  refine x_set (R := rNat) (x := r.length) e (Ev.toNat (ev_lenL (ev_var rfl r1))) fun v2 F1 H1 g1 r2 => ?_
  cases (show v2 = _ from r2)
  obtain ⟨o0, ho0⟩ := s.someO
  have s1 := s.gr g1
  have fa1 := g1.nn ho0 fa
  walk_at "n"
  refine x_setS (es_callP rfl (fun _ _ _ _ => ev_lit (n := 3)) ⟨by omega, by omega⟩) g1.fh fa1 s1 (by omega) fun v3 way F2 H2 g2 fa2 s2 p3 r3 => ?_
  cases (show v3 = _ from r3)
  have G2 := g1.up.trans g2
  have r12 := Mn.mono (g1.ff.trans g2.ff) r1
  obtain ⟨o2, ho2⟩ := s2.someO
  walk_at "n"
  refine x_if (b := decide ((way : Int) = 0)) g2.fh (et_test (ev_eqI (ev_var rfl (ri _ (way : Int))) ev_int)) (fun hb F3 H3 g3 => ?_) fun hb F3 H3 g3 => ?_
  · walk_at "n"
    refine x_retS (R := rLst (rPr rNat rNat)) (c := 0) (es_pure (x := (List.range (r.length - 1)).map fun k => (r.getD k 0, r.getD (k + 1) 0)) fun F5 H5 g5 _ => ev_lcRm (fun k => (r.getD k 0, r.getD (k + 1) 0)) (Ev.is (ev_sub (ev_var rfl (ri _ (r.length : Int))) ev_int) (by omega)) (by omega) (fun v => rfl) fun i F6 H6 hi g6 => ev_pr (R := rNat) (S := rNat) (ev_ixL (ev_var rfl (Mn.mono (g3.ff.trans (g5.ff.trans g6.ff)) r12)) (ev_var rfl (ri _ (i : Int))) (atI_natL (at_getD (by omega)))) (ev_ixL (ev_var rfl (Mn.mono (g3.ff.trans (g5.ff.trans g6.ff)) r12)) (Ev.is (ev_add (ev_var rfl (ri _ (i : Int))) ev_int) (show (i : Int) + 1 = ((i + 1 : Nat) : Int) by omega)) (atI_natL (at_getD (by omega))))) g3.fh (g3.nn ho2 fa2) (s2.gr g3) (Nat.zero_le _) fun v' y F6 H6 g7 fa6 s6 py ry => ?_
    have py : y = _ := py
    subst py
    refine k v' _ F6 H6 (G2.trans (g3.up.trans g7)) fa6 (s6.le (by omega)) ⟨by rw [List.length_map, List.length_range]; omega, fun p hp => ?_⟩ ry
    obtain ⟨i, hi, rfl⟩ := List.mem_map.mp hp
    have hi := List.mem_range.mp hi
    exact ⟨i, i + 1, by omega, at_getD (by omega), at_getD (by omega)⟩
  · have fa3 := g3.nn ho2 fa2
    have s3 := s2.gr g3
    have G3 := G2.trans g3.up
    have r13 := Mn.mono g3.ff r12
    walk_at "n"
    refine x_nil g3.fh fun l hl => ?_
    have hne : l ≠ a := fun z => by subst z; exact s3.hn hl
    have hl0 : H l = none := by
      cases q : H l with
      | none => rfl
      | some o => exact absurd hl (G3.dm l (by rw [q]; exact fun z => nomatch z))
    have fl3 : F3 l = none := g3.fh.free hl
    have G4 := G3.trans (.loc (o := .lst []) g3.fh hl)
    have s4 := s3.ex (H' := upd H3 l (.lst [])) (upd_ne hne.symm)
    walk_at "n"
    refine x_forRS (c := 1 + 0) (P1 := fun z => ∃ i j : Int, (0 ≤ i ∧ i ≤ 8) ∧ j = (if decide ((1 : Int) < (r.length : Int)) then 1 else 0) ∧ z = i * j) (es_mul ((EvS.nat (es_callP rfl (fun _ _ _ _ => ev_lit (n := 9)) ⟨by omega, by omega⟩)).mono (P' := fun i => 0 ≤ i ∧ i ≤ 8) (by rintro x ⟨m, rfl, h⟩; omega) (Nat.le_refl _)) (es_pure fun F5 H5 _ _ => ev_intB (ev_gt (ev_var rfl (ri _ (r.length : Int))) ev_int)) (fun i j hi hj => .inl ⟨by have hi : 0 ≤ i ∧ i ≤ 8 := hi; omega, by have hi : 0 ≤ i ∧ i ≤ 8 := hi; omega⟩)) G4.fh fa3 s4 (by omega) (fun z ⟨i, j, hi, hj, hz⟩ => by rw [hz, hj]; split <;> omega) (fun n pn F5 H5 g5 fa5 s5 => ⟨fun i σ' F' H' => Gr (El.M1 a) F H F' H' ∧ F' a = none ∧ Src H' a (N + 18 - i * 2) ∧ (F' l = none ∧ ∃ vs ps, H' l = some (.lst vs) ∧ Paired (rPr rNat rNat F') vs ps ∧ ps.length = i ∧ ∀ p ∈ ps, RkLt r p.1 p.2) ∧ ∃ y4 y6 y7, σ' = [some (.ref a), some v, some (.int (r.length : Int)), some (.int (way : Int)), y4, some (.ref l), y6, y7], ?_, ?_, ?_⟩)
    · have hL5 := g5.hh _ _ hne (upd_same (H := H3) (a := l) (o := .lst []))
      exact ⟨G4.trans g5, fa5, s5.le (by omega), ⟨g5.nw l hne (by rw [upd_same]; exact fun z => nomatch z) fl3, [], [], hL5, .nil, rfl, fun _ h => nomatch h⟩, _, _, _, rfl⟩
    · rintro i σ' F6 H6 hi e5 e6 ⟨g6, fa6, s6, ⟨fl6, vs, ps, hL6, pv, hlen, hps⟩, y4, y6, y7, rfl⟩
      have hn8 : n ≤ 8 ∧ 1 < r.length := by
        obtain ⟨i', j', hi', hj', hz⟩ := pn
        by_cases q : (1 : Int) < (r.length : Int)
        · rw [decide_eq_true q] at hj'
          have hj' : j' = 1 := hj'
          rw [hj'] at hz
          omega
        · rw [decide_eq_false q] at hj'
          have hj' : j' = 0 := hj'
          rw [hj'] at hz
          omega
      have r16 := Mn.mono g6.ff r1
      walk_at "n"
      refine x_setS (es_callP (x := r.length - 1) rfl (fun F7 H7 _ _ => Ev.toNat (Ev.is (ev_sub (ev_var rfl (ri _ (r.length : Int))) ev_int) (by omega))) ⟨by omega, by omega⟩) g6.fh fa6 s6 (by omega) fun v7 low F7 H7 g7 fa7 s7 p7 r7 => ?_
      cases (show v7 = _ from r7)
      have hlow : low < r.length - 1 := p7
      have hL7 := g7.hh _ _ hne hL6
      have fl7 := g7.nw l hne (by rw [hL6]; exact fun z => nomatch z) fl6
      have r17 := Mn.mono g7.ff r16
      walk_at "n"
      refine x_appS (R := rPr rNat rNat) (c := 0 + (0 + 1)) hne (es_pr (R := rNat) (S := rNat) (es_pure (x := r.getD low 0) fun F8 H8 g8 _ => ev_ixL (ev_var rfl (Mn.mono g8.ff r17)) (ev_var rfl (ri _ (low : Int))) (atI_natL (at_getD (by omega)))) (es_ixL (xs := r) (fun F8 H8 g8 _ => ev_var rfl (Mn.mono g8.ff r17)) (es_add (es_pure fun F8 H8 _ _ => ev_add (ev_var rfl (ri _ (low : Int))) ev_int) (EvS.nat (es_callP (x := r.length - 1 - low) rfl (fun F8 H8 _ _ => Ev.toNat (Ev.is (ev_sub (ev_sub (ev_var rfl (ri _ (r.length : Int))) ev_int) (ev_var rfl (ri _ (low : Int)))) (by omega))) ⟨by omega, by omega⟩))) fun z ⟨i1, j1, hi1, ⟨d, hd1, hd2⟩, hz⟩ => ?_)) g7.fh fa7 s7 (by omega) rfl hL7 (by rw [pv.length, hlen, sizeLine_eq]; omega) fun v8 p8 F8 H8 g8 fa8 s8 q8 r8 h8 => ?_
      · have hi1 : i1 = (low : Int) + 1 := hi1
        have hd2 : d < r.length - 1 - low := hd2
        exact ⟨r.getD (low + 1 + d) 0, by rw [hz, hi1, hd1, show (low : Int) + 1 + (d : Int) = ((low + 1 + d : Nat) : Int) by omega]; exact atI_natL (at_getD (d := 0) (by omega))⟩
      · obtain ⟨q1, z, ⟨i1, j1, hi1, ⟨d, hd1, hd2⟩, hz⟩, hat⟩ := q8
        have hi1 : i1 = (low : Int) + 1 := hi1
        have hd2 : d < r.length - 1 - low := hd2
        rw [hz, hi1, hd1, show (low : Int) + 1 + (d : Int) = ((low + 1 + d : Nat) : Int) by omega, atI_natL (at_getD (d := 0) (by omega))] at hat
        have fl8 := g8.nw l hne (by rw [hL7]; exact fun z => nomatch z) fl7
        have G8 := (g6.trans (g7.trans g8)).set' (o := .lst (vs ++ [v8])) fl8 (.inl hl0)
        refine ⟨F8, e5.trans (g7.ff.trans g8.ff), G8.fh, G8, fa8, (s8.le (by omega)).ex (upd_ne hne.symm), ⟨fl8, _, ps ++ [p8], upd_same, (Paired.up (g7.ff.trans g8.ff) pv).snoc r8, by rw [List.length_append, hlen]; rfl, fun p hp => ?_⟩, _, _, _, rfl⟩
        rcases List.mem_append.mp hp with h | h
        · exact hps p h
        · rw [List.mem_singleton.mp h]
          exact ⟨low, low + 1 + d, by omega, by rw [show p8.1 = _ from q1]; exact at_getD (by omega), by rw [← Option.some.inj hat]; exact at_getD (d := 0) (by omega)⟩
    · rintro σ' F6 H6 e5 e6 ⟨g6, fa6, s6, ⟨fl6, vs, ps, hL6, pv, hlen, hps⟩, y4, y6, y7, rfl⟩
      have hn8 : n ≤ 8 := by
        obtain ⟨i', j', hi', hj', hz⟩ := pn
        by_cases q : (1 : Int) < (r.length : Int)
        · rw [decide_eq_true q] at hj'
          have hj' : j' = 1 := hj'
          rw [hj'] at hz
          omega
        · rw [decide_eq_false q] at hj'
          have hj' : j' = 0 := hj'
          rw [hj'] at hz
          omega
      have gf := g6.frz hL6 (Ex.free g6.ff fl6) (.inl hl0)
      have faz : upd F6 l (.lst vs) a = none := by rw [upd_ne hne.symm]; exact fa6
      have rps : rLst (rPr rNat rNat) (upd F6 l (.lst vs)) (.ref l) ps := ⟨l, vs, rfl, upd_same, Paired.up (Ex.new fl6) pv⟩
      have r1f := Mn.mono gf.ff r1
      have fin : ∀ (qs : List (Nat × Nat)) (v5 : V) F8 H8 z4 z6 z7, qs.length ≤ 40 → (∀ p ∈ qs, RkLt r p.1 p.2) → rLst (rPr rNat rNat) F8 v5 qs → Gr M0 (upd F6 l (.lst vs)) H6 F8 H8 →
          tRet (tVar 5) { nx := fun _ H' => Q .non H', rt := Q } [some (.ref a), some v, some (.int (r.length : Int)), some (.int (way : Int)), z4, some v5, z6, z7] H8 := fun qs v5 F8 H8 z4 z6 z7 hq hr r5 g8 => by
        obtain ⟨o6, ho6⟩ := s6.someO
        refine x_retS (R := rLst (rPr rNat rNat)) (c := 0) (es_var rfl r5) g8.fh (g8.nn ho6 faz) (s6.gr g8) (Nat.zero_le _) fun v' y F9 H9 g9 fa9 s9 py ry => ?_
        have py : y = qs := py
        subst py
        exact k v' y F9 H9 (gf.trans (g8.up.trans g9)) fa9 (s9.le (by omega)) ⟨hq, hr⟩ ry
      walk_at "n"
      refine x_if (b := decide ((way : Int) = 1)) gf.fh (et_test (ev_eqI (ev_var rfl (ri _ (way : Int))) ev_int)) (fun hb7 F7 H7 g7 => ?_) fun hb7 F7 H7 g7 => ?_
      · have r17 := Mn.mono g7.ff r1f
        have rps7 := Mn.mono g7.ff rps
        have h0 : r[0]? = some (r.getD 0 0) := at_getD (by omega)
        have hz : r[r.length - 1]? = some (r.getD (r.length - 1) 0) := at_getD (by omega)
        walk_at "n"
        refine x_forL (R := rNat) (xs := cut r (some 1) (some (-1))) g7.fh (ev_slL (lo := some 1) (hi := some (-1)) (ev_var rfl r17) (eo_some ev_int) (eo_some (ev_neg ev_int)))
          (fun i σ' F' H' => Gr M0 F7 H7 F' H' ∧ ∃ v5 qs, rLst (rPr rNat rNat) F' v5 qs ∧ qs.length = n + 2 * i ∧ (∀ p ∈ qs, RkLt r p.1 p.2) ∧ ∃ y4 y6 y7, σ' = [some (.ref a), some v, some (.int (r.length : Int)), some (.int (way : Int)), y4, some v5, y6, y7])
          (fun F8 H8 g8 => ⟨g8, _, ps, Mn.mono g8.ff rps7, by omega, hps, _, _, _, rfl⟩) ?_ ?_
        · rintro F8 e8 i x u σ' F9 H9 hx e9 e10 rx ⟨g9, v5, qs, r5, hql, hqs, y4, y6, y7, rfl⟩
          cases (show u = _ from rx)
          obtain ⟨hx1, hx2⟩ := cut_inner hx
          have r19 := Mn.mono g9.ff r17
          walk_at "n"
          refine x_set (R := rLst (rPr rNat rNat)) (x := qs ++ [(r.getD 0 0, x), (x, r.getD (r.length - 1) 0)]) e10 (ev_cat (ev_var rfl r5) (ev_lst (R := rPr rNat rNat) (el_cons (ev_pr (R := rNat) (S := rNat) (ev_ixL (i := ((0 : Nat) : Int)) (ev_var rfl r19) ev_int (atI_natL h0)) (ev_var rfl (rn _ x))) (el_cons (ev_pr (R := rNat) (S := rNat) (ev_var rfl (rn _ x)) (ev_ixL (ev_var rfl r19) (ev_neg ev_int) (atI_last hz))) el_nil)) (by show 2 ≤ sizeLine; decide)) (by rw [hql, sizeLine_eq]; show n + 2 * i + 2 ≤ _; omega)) fun v11 F11 H11 g11 r11 => ?_
          refine ⟨F11, e9.trans g11.ff, g11.fh, g9.trans g11, v11, _, r11, by rw [List.length_append, hql]; show n + 2 * i + 2 = n + 2 * (i + 1); omega, fun p hp => ?_, _, _, _, rfl⟩
          rcases List.mem_append.mp hp with h | h
          · exact hqs p h
          · rcases List.mem_cons.mp h with rfl | h
            · exact ⟨0, i + 1, by omega, h0, hx1⟩
            · rw [List.mem_singleton.mp h]
              exact ⟨i + 1, r.length - 1, by omega, hx1, hz⟩
        · rintro σ' F9 H9 e9 e10 ⟨g9, v5, qs, r5, hql, hqs, y4, y6, y7, rfl⟩
          have hcl := cut_inner_len (r := r)
          have hrep : (if decide ((1 : Int) < (r.length : Int)) then (1 : Int) else 0).toNat ≤ 1 := by split <;> decide
          have r19 := Mn.mono g9.ff r17
          walk_at "n"
          refine x_set (R := rLst (rPr rNat rNat)) (x := qs ++ List.replicate (if decide ((1 : Int) < (r.length : Int)) then (1 : Int) else 0).toNat (r.getD 0 0, r.getD (r.length - 1) 0)) e10 (ev_cat (ev_var rfl r5) (ev_rep1 (R := rPr rNat rNat) (ev_lst (R := rPr rNat rNat) (el_cons (ev_pr (R := rNat) (S := rNat) (ev_ixL (i := ((0 : Nat) : Int)) (ev_var rfl r19) ev_int (atI_natL h0)) (ev_ixL (ev_var rfl r19) (ev_neg ev_int) (atI_last hz))) el_nil) (by show 1 ≤ sizeLine; decide)) (ev_intB (ev_gt (ev_var rfl (ri _ (r.length : Int))) ev_int)) (by split <;> decide) (by split <;> decide)) (by rw [hql, List.length_replicate, sizeLine_eq]; omega)) fun v11 F11 H11 g11 r11 => ?_
          walk_at "n"
          refine fin _ v11 F11 H11 _ _ _ ?_ (fun p hp => ?_) r11 (g7.trans (g9.trans g11))
          · rw [List.length_append, hql, List.length_replicate]
            omega
          · rcases List.mem_append.mp hp with h | h
            · exact hqs p h
            · obtain ⟨hne0, rfl⟩ := List.mem_replicate.mp h
              have : 1 < r.length := by
                by_cases q : (1 : Int) < (r.length : Int)
                · omega
                · rw [decide_eq_false q] at hne0
                  exact absurd rfl hne0
              exact ⟨0, r.length - 1, by omega, h0, hz⟩
      · walk_at "n"
        exact fin ps (.ref l) F7 H7 _ _ _ (by omega) hps (Mn.mono g7.ff rps) g7
abbrev sp__law_step (T : Tx K mg) : Sp := SpS3 20 (rLst rNat) (rLst (rLst rNat)) rBl (fun r hs _ => 1 ≤ r.length ∧ r.length ≤ 7 ∧ (∀ x, x ∈ r ↔ x < r.length) ∧ hs.length = r.length) (rTup rNat) (fun r _ _ m => IsMap r.length m)
theorem ok__law_step (T : Tx K mg) : FnOk P w K mg base CX0 2 T.a__law_step T.d__law_step ["_law_well_here", "_law_ranking_here", "_law_higher", "_law_is_kept"] (sp__law_step T) := by
  refine T.F__law_step.ok sc__law_step (fun vs H Q E h => SpLen.len h) (fun cdv A outer s H vs Q E hr h => ?_)
  obtain ⟨F, a, N, v, u, o, r, hs, bb, rfl, e, fa, s, r1, r2, r3, ⟨hr0, hr7, hrm, hhl⟩, k⟩ := h
  cases (show o = _ from r3)
  have ri : ∀ F (i : Int), rInt F (.int i) i := fun F i => rfl
  have rn : ∀ F (i : Nat), rNat F (.int (i : Int)) i := fun F i => rfl
  have rb : ∀ F (i : Bool), rBl F (.bl i) i := fun F i => rfl
  refine ⟨_, (by exact (pss_cons (ps_set (i := 4) sc__law_step.nd rfl (Or.inr rfl) (pe_callB (r := rLenS K) call_len_seq (by rfl) T.z_len PySem.boot_len (pa_cons (pv 1) pa_nil)))
      (pss_cons (ps_setLc (i := 5) (own := [("_law_place", 6)]) (g := gName 6) (tt := tYes) rfl sc__law_step.nd rfl rfl (sw_true rfl rfl rfl (by decide +kernel)) (pi_range1 rfl T.z_range (pa_cons (pv 4) pa_nil)) (blkOk_by (own := [("_law_place", 6)]) (N := N__law_step) (sc := defScope s__law_step) (by decide +kernel)) (fun _ _ _ _ _ => (pg_name (i := 6) sc__law_step.nd rfl (by first | exact Or.inl rfl | exact Or.inr rfl))) (fun _ _ _ _ _ => pts_nil) (fun _ _ _ _ _ => (pe_call (ok__law_draw T) (hr.mono (by decide)) rfl T.g__law_draw T.F__law_draw.kp T.b__law_draw .nil pass0 (pa_cons (pv 0) (pa_cons (pv 4) pa_nil)))))
      (pss_cons (ps_set (i := 7) sc__law_step.nd rfl (Or.inl rfl) (pe_call (ok__law_draw T) (hr.mono (by decide)) rfl T.g__law_draw T.F__law_draw.kp T.b__law_draw .nil pass0 (pa_cons (pv 0) (pa_cons pe_int pa_nil))))
      (pss_cons (ps_if (pt_cmpR op_eq (pv 7) pe_int (nomark _)) (pss_one (ps_setLc (i := 5) (own := [("_law_place", 6)]) (g := gName 6) (tt := tYes) rfl sc__law_step.nd rfl rfl (sw_true rfl rfl rfl (by decide +kernel)) (pi_range1 rfl T.z_range (pa_cons (pv 4) pa_nil)) (blkOk_by (own := [("_law_place", 6)]) (N := N__law_step) (sc := defScope s__law_step) (by decide +kernel)) (fun _ _ _ _ _ => (pg_name (i := 6) sc__law_step.nd rfl (by first | exact Or.inl rfl | exact Or.inr rfl))) (fun _ _ _ _ _ => pts_nil) (fun _ _ _ _ _ => (pe_ix (r := rIxL K) ix_list (pv 1) (pe_callB (call_max2 rfl) (by rfl) T.z_max (by decide +kernel) (pa_cons pe_int (pa_cons (pe_op op_sub (kbm K (r := rIndex K) PySem.F.plainAttrs_list PySem.F.slot_list_index PySem.F.type_list_index mt_index (pv 1) (pa_cons (pv 6) pa_nil)) pe_int) pa_nil))) (fun _ _ => rfl))))) pss_nil)
      (pss_cons (ps_if (pt_cmpR op_eq (pv 7) pe_int (nomark _)) (pss_one (ps_setLc (i := 5) (own := [("_law_place", 6)]) (g := gName 6) (tt := tYes) rfl sc__law_step.nd rfl rfl (sw_true rfl rfl rfl (by decide +kernel)) (pi_range1 rfl T.z_range (pa_cons (pv 4) pa_nil)) (blkOk_by (own := [("_law_place", 6)]) (N := N__law_step) (sc := defScope s__law_step) (by decide +kernel)) (fun _ _ _ _ _ => (pg_name (i := 6) sc__law_step.nd rfl (by first | exact Or.inl rfl | exact Or.inr rfl))) (fun _ _ _ _ _ => pts_nil) (fun _ _ _ _ _ => (pe_ix (r := rIxL K) ix_list (pv 1) (pe_callB (call_min2 rfl) (by rfl) T.z_min (by decide +kernel) (pa_cons (pe_op op_sub (pv 4) pe_int) (pa_cons (pe_op op_add (kbm K (r := rIndex K) PySem.F.plainAttrs_list PySem.F.slot_list_index PySem.F.type_list_index mt_index (pv 1) (pa_cons (pv 6) pa_nil)) pe_int) pa_nil))) (fun _ _ => rfl))))) pss_nil)
      (pss_cons (ps_if (pt_not (pt_val (pv 3))) (pss_one (ps_ret (pe_callTy (r := rTupS K) call_tuple_of (by rfl) T.z_tuple (by decide +kernel) (pa_cons (pv 5) pa_nil)))) pss_nil)
      (pss_cons (ps_for PassesOwn.never rfl (klist K (pv 1)) (pg_name (i := 6) sc__law_step.nd rfl (by first | exact Or.inl rfl | exact Or.inr rfl)) (pss_one (ps_for PassesOwn.never rfl (klist K (pv 1)) (pg_name (i := 8) sc__law_step.nd rfl (by first | exact Or.inl rfl | exact Or.inr rfl)) (pss_one (ps_if (PW.pt (pw_and (pt_cmpR (r := rIn K false) op_in_seq (pv 8) (pe_ix (r := rIxL K) ix_list (pv 2) (pv 6) (fun _ _ => rfl)) (by rfl)) (pw_and (pt_cmpR op_ne (pe_ix (r := rIxL K) ix_list (pv 5) (pv 8) (fun _ _ => rfl)) (pe_ix (r := rIxL K) ix_list (pv 5) (pv 6) (fun _ _ => rfl)) (nomark _)) (pw_and1 (pt_cmpR (r := rIn K true) op_notIn_seq (pe_ix (r := rIxL K) ix_list (pv 5) (pv 8) (fun _ _ => rfl)) (pe_ix (r := rIxL K) ix_list (pv 2) (pe_ix (r := rIxL K) ix_list (pv 5) (pv 6) (fun _ _ => rfl)) (fun _ _ => rfl)) (by rfl)))))) (pss_one (ps_asg (pe_ix (r := rIxL K) ix_list (pv 5) (pv 6) (fun _ _ => rfl)) (pg_sub (pv 5) (pv 8) set_list))) pss_nil)))))
      (pss_one (ps_ret (pe_callTy (r := rTupS K) call_tuple_of (by rfl) T.z_tuple (by decide +kernel) (pa_cons (pv 5) pa_nil)))))))))))), ?_⟩
  walk_at "n"
  refine x_set (R := rNat) (x := r.length) e (Ev.toNat (ev_lenL (ev_var rfl r1))) fun v2 F1 H1 g1 r2' => ?_
  cases (show v2 = _ from r2')
  obtain ⟨o0, ho0⟩ := s.someO
  have s1 := s.gr g1
  have fa1 := g1.nn ho0 fa
  walk_at "n"
  refine x_lcSM (S := rNat) (B := 7) (c1 := 0) (c2 := 1) (P1 := fun z => z = (r.length : Int)) (P2 := fun _ x => x < r.length) (es_pure fun F5 H5 _ _ => ev_var rfl (ri _ (r.length : Int))) (fun n hn => by rw [hn]; omega) (by omega) (fun v => rfl) (fun i hi F5 H5 g5 _ => es_callP (x := r.length) rfl (fun F6 H6 g6 _ => ev_var rfl (rn _ r.length)) ⟨by omega, by omega⟩) g1.fh fa1 s1 (by omega) fun l us xs F2 H2 g2 fa2 s2 hne hl1 fl2 hL pu hxl hxs => ?_
  obtain ⟨n0, hn0, hxl⟩ := hxl
  have hn0 : n0 = (r.length : Int) := hn0
  have eus := nats_eq pu
  subst eus
  have hl0 : H l = none := Ex.free g1.hx hl1
  have G2 := g1.up.trans g2
  have hxm : ∀ x ∈ xs, x < r.length := fun x hx => by
    obtain ⟨i, hi⟩ := List.mem_iff_getElem?.mp hx
    exact hxs i x hi
  walk_at "n"
  refine x_setS (es_callP rfl (fun _ _ _ _ => ev_lit (n := 4)) ⟨by omega, by omega⟩) g2.fh fa2 s2 (by omega) fun v7 way F3 H3 g3 fa3 s3 p3 r7 => ?_
  cases (show v7 = _ from r7)
  have idx : ∀ x, x < r.length → r.idxOf x < r.length := fun x hx => List.idxOf_lt_length_iff.mpr ((hrm x).mpr hx)
  have mem : ∀ i, i < r.length → r.getD i 0 < r.length := fun i hi => (hrm _).mp (List.mem_of_getElem? (at_getD (d := 0) hi))
  generalize hJd : (fun (σ' : St) (H' : Hp) => ∃ F' l xs y6 y8, Gr (El.M1 a) F H F' H' ∧ F' a = none ∧ Src H' a N ∧ l ≠ a ∧ H l = none ∧ F' l = none ∧ H' l = some (.lst (xs.map fun n : Nat => V.int (n : Int))) ∧ IsMap r.length xs ∧ σ' = [some (.ref a), some v, some u, some (.bl bb), some (.int (r.length : Int)), some (V.ref l), y6, some (.int (way : Int)), y8]) = J
  walk_at "n"
  refine x_ifH J (fun σ' H' hj => ?_) g3.fh (et_test (ev_eqI (ev_var rfl (ri _ (way : Int))) ev_int)) (fun hJ hb F5 H5 g5 => ?_) (fun hJ hb F5 H5 g5 => ?_)
  · subst hJd
    obtain ⟨F', l, xs, y6, y8, g, fa', s', hne, hl0, fl, hL, hm, rfl⟩ := hj
    generalize hJd : (fun (σ' : St) (H' : Hp) => ∃ F' l xs y6 y8, Gr (El.M1 a) F H F' H' ∧ F' a = none ∧ Src H' a N ∧ l ≠ a ∧ H l = none ∧ F' l = none ∧ H' l = some (.lst (xs.map fun n : Nat => V.int (n : Int))) ∧ IsMap r.length xs ∧ σ' = [some (.ref a), some v, some u, some (.bl bb), some (.int (r.length : Int)), some (V.ref l), y6, some (.int (way : Int)), y8]) = J
    walk_at "n"
    refine x_ifH J (fun σ' H' hj => ?_) g.fh (et_test (ev_eqI (ev_var rfl (ri _ (way : Int))) ev_int)) (fun hJ hb F5 H5 g5 => ?_) (fun hJ hb F5 H5 g5 => ?_)
    · subst hJd
      obtain ⟨F', l, xs, y6, y8, g, fa', s', hne, hl0, fl, hL, hm, rfl⟩ := hj
      have fin : ∀ (ys : List Nat) F8 H8 z6 z8, IsMap r.length ys → Gr (El.M1 a) F H F8 H8 → F8 a = none → Src H8 a N → H8 l = some (.lst (ys.map fun n : Nat => V.int (n : Int))) →
          tRet (tCB (rTupS K) (tCons (tVar 5) tNil)) { nx := fun _ H' => Q .non H', rt := Q } [some (.ref a), some v, some u, some (.bl bb), some (.int (r.length : Int)), some (.ref l), z6, some (.int (way : Int)), z8] H8 := fun ys F8 H8 z6 z8 hm8 g8 fa8 s8 hL8 => by
        obtain ⟨o8, ho8⟩ := s8.someO
        exact x_ret (R := rTup rNat) (x := ys) g8.fh (ev_tupM (ev_var rfl (show rRef _ _ l from rfl)) hL8) fun v' F9 H9 g9 r9 => k v' ys F9 H9 (g8.trans g9.up) (g9.nn ho8 fa8) (s8.gr g9) hm8 r9
      obtain ⟨o1, ho1⟩ := s'.someO
      walk_at "n"
      refine x_if (b := !bb) g.fh (et_not (et_B (ev_var rfl (rb _ bb)))) (fun hbb F5 H5 g5 => ?_) (fun hbb F5 H5 g5 => ?_)
      · walk_at "n"
        exact fin xs F5 H5 _ _ hm (g.trans g5.up) (g5.nn ho1 fa') (s'.gr g5) (g5.hx _ _ hL)
      · have g5' := g.trans g5.up
        walk_at "n"
        refine x_forL (R := rNat) (xs := r) g5.fh (ev_var rfl (Mn.mono g5'.ff r1))
          (fun i σ' F' H' => Gr (El.M1 a) F H F' H' ∧ F' a = none ∧ Src H' a N ∧ F' l = none ∧ (∃ ys : List Nat, H' l = some (.lst (ys.map fun n : Nat => V.int (n : Int))) ∧ IsMap r.length ys) ∧ ∃ z6 z8, σ' = [some (.ref a), some v, some u, some (.bl bb), some (.int (r.length : Int)), some (V.ref l), z6, some (.int (way : Int)), z8])
          (fun F6 H6 g6 => by
            have G6 := g5.trans g6
            exact ⟨g.trans G6.up, G6.nn ho1 fa', s'.gr G6, G6.nn hL fl, ⟨xs, G6.hx _ _ hL, hm⟩, _, _, rfl⟩) ?_ ?_
        · rintro F6 e6 i x w6 σ' F7 H7 hx e7 e8 rx ⟨g7, fa7, s7, fl7, ⟨ys, hL7, hm7⟩, z6, z8, rfl⟩
          cases (show w6 = _ from rx)
          have hxr : x < r.length := (hrm x).mp (mem_of_at hx)
          obtain ⟨o7, ho7⟩ := s7.someO
          walk_at "n"
          refine x_forL (R := rNat) (xs := r) g7.fh (ev_var rfl (Mn.mono g7.ff r1))
            (fun i σ' F' H' => Gr (El.M1 a) F H F' H' ∧ F' a = none ∧ Src H' a N ∧ F' l = none ∧ (∃ ys : List Nat, H' l = some (.lst (ys.map fun n : Nat => V.int (n : Int))) ∧ IsMap r.length ys) ∧ ∃ z8, σ' = [some (.ref a), some v, some u, some (.bl bb), some (.int (r.length : Int)), some (V.ref l), some (.int (x : Int)), some (.int (way : Int)), z8])
            (fun F8 H8 g8 => ⟨g7.trans g8.up, g8.nn ho7 fa7, s7.gr g8, g8.nn hL7 fl7, ⟨ys, g8.hx _ _ hL7, hm7⟩, _, rfl⟩) ?_ ?_
          · rintro F8 e8 j y w8 σ' F9 H9 hy e9 e10 ry ⟨g9, fa9, s9, fl9, ⟨ys, hL9, hm9⟩, z8, rfl⟩
            cases (show w8 = _ from ry)
            have hyr : y < r.length := (hrm y).mp (mem_of_at hy)
            obtain ⟨o9, ho9⟩ := s9.someO
            have r29 := Mn.mono g9.ff r2
            have hax : ys[x]? = some (ys.getD x 0) := at_getD (by rw [hm9.1]; exact hxr)
            have hay : ys[y]? = some (ys.getD y 0) := at_getD (by rw [hm9.1]; exact hyr)
            have hhx : hs[x]? = some (hs.getD x []) := at_getD (by rw [hhl]; exact hxr)
            have hhy : hs[ys.getD x 0]? = some (hs.getD (ys.getD x 0) []) := at_getD (by rw [hhl]; exact hm9.2 _ (List.mem_of_getElem? hax))
            have lx : ∀ F5 H5, Gr M0 F9 H9 F5 H5 → Ev rNat (tOp (rIxL K) (tVar 5) (tVar 6)) [some (.ref a), some v, some u, some (.bl bb), some (.int (r.length : Int)), some (V.ref l), some (.int (x : Int)), some (.int (way : Int)), some (.int (y : Int))] F5 H5 (ys.getD x 0) := fun F5 H5 g5 => ev_ixN (ev_var rfl (show rRef _ _ l from rfl)) (ev_var rfl (ri _ (x : Int))) (g5.hx _ _ hL9) hax
            have ly : ∀ F5 H5, Gr M0 F9 H9 F5 H5 → Ev rNat (tOp (rIxL K) (tVar 5) (tVar 8)) [some (.ref a), some v, some u, some (.bl bb), some (.int (r.length : Int)), some (V.ref l), some (.int (x : Int)), some (.int (way : Int)), some (.int (y : Int))] F5 H5 (ys.getD y 0) := fun F5 H5 g5 => ev_ixN (ev_var rfl (show rRef _ _ l from rfl)) (ev_var rfl (ri _ (y : Int))) (g5.hx _ _ hL9) hay
            walk_at "n"
            refine x_if e10 (et_and (et_test (ev_inL (neg := false) (ev_var rfl (rn _ y)) (ev_ixL (R := rLst rNat) (ev_var rfl r29) (ev_var rfl (ri _ (x : Int))) (atI_natL hhx)))) fun _ => et_and (et_test (ev_neI (ly _ _ (.refl e10)).nat (lx _ _ (.refl e10)).nat)) fun _ => et_test (ev_inL (neg := true) (ly _ _ (.refl e10)) (ev_ixL (R := rLst rNat) (ev_var rfl r29) (lx _ _ (.refl e10)).nat (atI_natL hhy)))) (fun hb F11 H11 g11 => ?_) (fun hb F11 H11 g11 => ?_)
            · walk_at "n"
              refine x_setI (R := rNat) (x := ys.getD x 0) (l := l) (n := y) g11.fh (lx _ _ g11) (ev_var rfl (show rRef _ _ l from rfl)) (ev_var rfl (ri _ (y : Int))) (g11.hx _ _ hL9) (by rw [List.length_map, hm9.1]; exact hyr) fun v12 F12 H12 g12 r12 h12 => ?_
              cases (show v12 = _ from r12)
              have g912 := g11.trans g12
              have fl12 := g912.nn hL9 fl9
              have G12 := (g9.trans g912.up).set' (o := .lst ((ys.map fun n : Nat => V.int (n : Int)).set y (.int (ys.getD x 0 : Int)))) fl12 (.inl hl0)
              refine ⟨F12, e9.trans g912.ff, G12.fh, G12, g912.nn ho9 fa9, (s9.gr g912).ex (upd_ne hne.symm), fl12, ⟨ys.set y (ys.getD x 0), by rw [upd_same, List.map_set], by rw [List.length_set]; exact hm9.1, fun z hz => ?_⟩, _, rfl⟩
              rcases List.mem_or_eq_of_mem_set hz with h | h
              · exact hm9.2 z h
              · rw [h]; exact hm9.2 _ (List.mem_of_getElem? hax)
            · walk_at "n"
              exact ⟨F11, e9.trans g11.ff, g11.fh, g9.trans g11.up, g11.nn ho9 fa9, s9.gr g11, g11.nn hL9 fl9, ⟨ys, g11.hx _ _ hL9, hm9⟩, _, rfl⟩
          · rintro σ' F9 H9 e9 e10 ⟨g9, fa9, s9, fl9, ⟨ys, hL9, hm9⟩, z8, rfl⟩
            walk_at "n"
            exact ⟨F9, e7.trans e9, e10, g9, fa9, s9, fl9, ⟨ys, hL9, hm9⟩, _, _, rfl⟩
        · rintro σ' F7 H7 e7 e8 ⟨g7, fa7, s7, fl7, ⟨ys, hL7, hm7⟩, z6, z8, rfl⟩
          walk_at "n"
          exact fin ys F7 H7 _ _ hm7 g7 fa7 s7 hL7
    · obtain ⟨o1, ho1⟩ := s'.someO
      walk_at "n"
      refine x_lcRM (T := rNat) (n := r.length) (zs := (List.range r.length).map fun x => r.getD (min (r.length - 1) (r.idxOf x + 1)) 0) g5.fh (ev_var rfl (ri _ (r.length : Int))) (by rw [List.length_map, List.length_range]) (by omega) (fun v => rfl) (fun i y F6 H6 hi hy g6 => ?_) fun l' us F6 H6 g6 hl6 fl6 hL6 pu6 => ?_
      · rw [List.getElem?_map, List.getElem?_range hi] at hy
        cases hy
        have hidx := idx i hi
        have r16 := Mn.mono (g.ff.trans (g5.ff.trans g6.ff)) r1
        exact ev_ixL (ev_var rfl r16) (Ev.is (ev_min2 (ev_sub (ev_var rfl (ri _ (r.length : Int))) ev_int) (ev_add (ev_index (ev_var rfl r16) (ev_var rfl (rn _ i)) ((hrm i).mpr hi)).nat ev_int)) (show _ = ((min (r.length - 1) (r.idxOf i + 1) : Nat) : Int) by split <;> omega)) (atI_natL (at_getD (by omega)))
      · have eus := nats_eq pu6
        subst eus
        have g56 := g5.trans g6
        refine hJ _ _ ?_
        subst hJd
        refine ⟨F6, l', _, _, _, g.trans g56.up, g56.nn ho1 fa', s'.gr g56, fun z => ?_, ?_, fl6, hL6, ⟨by rw [List.length_map, List.length_range], fun x hx => ?_⟩, rfl⟩
        · subst z; exact (s'.gr g5).hn hl6
        · cases q : H l' with
          | none => rfl
          | some o => exact absurd hl6 ((g.trans g5.up).dm l' (by rw [q]; exact fun z => nomatch z))
        · obtain ⟨i, hi, rfl⟩ := List.mem_map.mp hx
          have := idx i (List.mem_range.mp hi)
          exact mem _ (by omega)
    · obtain ⟨o1, ho1⟩ := s'.someO
      refine hJ _ _ ?_
      subst hJd
      exact ⟨F5, l, xs, _, _, g.trans g5.up, g5.nn ho1 fa', s'.gr g5, hne, hl0, g5.nn hL fl, g5.hx _ _ hL, hm, rfl⟩
  · obtain ⟨o1, ho1⟩ := s3.someO
    have g := G2.trans g3
    walk_at "n"
    refine x_lcRM (T := rNat) (n := r.length) (zs := (List.range r.length).map fun x => r.getD (r.idxOf x - 1) 0) g5.fh (ev_var rfl (ri _ (r.length : Int))) (by rw [List.length_map, List.length_range]) (by omega) (fun v => rfl) (fun i y F6 H6 hi hy g6 => ?_) fun l' us F6 H6 g6 hl6 fl6 hL6 pu6 => ?_
    · rw [List.getElem?_map, List.getElem?_range hi] at hy
      cases hy
      have hidx := idx i hi
      have r16 := Mn.mono (g.ff.trans (g5.ff.trans g6.ff)) r1
      exact ev_ixL (ev_var rfl r16) (Ev.is (ev_max2 ev_int (ev_sub (ev_index (ev_var rfl r16) (ev_var rfl (rn _ i)) ((hrm i).mpr hi)).nat ev_int)) (show _ = ((r.idxOf i - 1 : Nat) : Int) by split <;> omega)) (atI_natL (at_getD (by omega)))
    · have eus := nats_eq pu6
      subst eus
      have g56 := g5.trans g6
      refine hJ _ _ ?_
      subst hJd
      refine ⟨F6, l', _, _, _, g.trans g56.up, g56.nn ho1 fa3, (s3.gr g56).le (by omega), fun z => ?_, ?_, fl6, hL6, ⟨by rw [List.length_map, List.length_range], fun x hx => ?_⟩, rfl⟩
      · subst z; exact (s3.gr g5).hn hl6
      · cases q : H l' with
        | none => rfl
        | some o => exact absurd hl6 ((g.trans g5.up).dm l' (by rw [q]; exact fun z => nomatch z))
      · obtain ⟨i, hi, rfl⟩ := List.mem_map.mp hx
        have := idx i (List.mem_range.mp hi)
        exact mem _ (by omega)
  · obtain ⟨o1, ho1⟩ := s3.someO
    refine hJ _ _ ?_
    subst hJd
    exact ⟨F5, l, xs, _, _, (G2.trans g3).trans g5.up, g5.nn ho1 fa3, (s3.gr g5).le (by omega), hne, hl0, g5.nn (g3.hh _ _ hne hL) (g3.nw l hne (by rw [hL]; exact fun z => nomatch z) fl2), g5.hx _ _ (g3.hh _ _ hne hL), ⟨by omega, hxm⟩, rfl⟩

abbrev sp__law_orders_right (T : Tx K mg) : Sp := Sp3 (rOrder T.C_Order) (rOrder T.C_Order) (rOrder T.C_Order) (fun hs ht hw => ∃ n B, n ≤ 32 ∧ OrdR n hs B ∧ OrdR n ht (fun x y => B y x) ∧ OrdR n hw B) rBl (fun _ _ _ => true)
theorem ok__law_orders_right (T : Tx K mg) : FnOk P w K mg base CX0 4 T.a__law_orders_right T.d__law_orders_right ["_law_order", "_law_turned", "_law_whole"] (sp__law_orders_right T) := by
  refine T.F__law_orders_right.ok sc__law_orders_right (fun vs H Q E h => SpLen.len h) (fun cdv A outer s H vs Q E hr h => ?_)
  obtain ⟨F, v, w, u, hs, ht, hw, rfl, e, r1, r2, r3, ⟨n, B, hn, o1, o2, o3⟩, k⟩ := h
  have rn : ∀ F (i : Nat), rNat F (.int (i : Int)) i := fun F i => rfl
  have l1 := o1.len
  have l2 := o2.len
  have l3 := o3.len
  refine ⟨_, (by exact (pss_cons (ps_for PassesOwn.never rfl (pi_range1 rfl T.z_range (pa_cons (pe_callB (call_lenOwn (ok_Order_len T) (hr.mono (by decide)) T.m_Order_len.at_ T.m_Order_len.fn T.b_Order_len pass0) (by rfl) T.z_len PySem.boot_len (pa_cons (pv 0) pa_nil)) pa_nil)) (pg_name (i := 3) sc__law_orders_right.nd rfl (by first | exact Or.inl rfl | exact Or.inr rfl)) (pss_one (ps_for PassesOwn.never rfl (pi_range1 rfl T.z_range (pa_cons (pe_callB (call_lenOwn (ok_Order_len T) (hr.mono (by decide)) T.m_Order_len.at_ T.m_Order_len.fn T.b_Order_len pass0) (by rfl) T.z_len PySem.boot_len (pa_cons (pv 0) pa_nil)) pa_nil)) (pg_name (i := 4) sc__law_orders_right.nd rfl (by first | exact Or.inl rfl | exact Or.inr rfl)) (pss_one (ps_if (PW.pt (pw_or (pt_cmpR op_ne (pe_meth (pv 1) T.cl_Order T.m_Order_at_most (ok_Order_at_most T) (hr.mono (by decide)) T.b_Order_at_most .nil pass0 (pa_cons (pv 4) (pa_cons (pv 3) pa_nil))) (pe_meth (pv 0) T.cl_Order T.m_Order_at_most (ok_Order_at_most T) (hr.mono (by decide)) T.b_Order_at_most .nil pass0 (pa_cons (pv 3) (pa_cons (pv 4) pa_nil))) (nomark _)) (pw_or1 (pt_cmpR op_ne (pe_meth (pv 2) T.cl_Order T.m_Order_at_most (ok_Order_at_most T) (hr.mono (by decide)) T.b_Order_at_most .nil pass0 (pa_cons (pv 3) (pa_cons (pv 4) pa_nil))) (pe_meth (pv 0) T.cl_Order T.m_Order_at_most (ok_Order_at_most T) (hr.mono (by decide)) T.b_Order_at_most .nil pass0 (pa_cons (pv 3) (pa_cons (pv 4) pa_nil))) (nomark _))))) (pss_one (ps_ret pe_bl)) pss_nil)))))
      (pss_cons (ps_if (pt_cmpR (r := rNeD K) (op_neD hr.units) (pe_tup (pa_cons (pe_meth0 (pv 1) T.cl_Order T.m_Order_least (ok_Order_least T) (hr.mono (by decide)) T.b_Order_least .nil pass0) (pa_cons (pe_meth0 (pv 1) T.cl_Order T.m_Order_greatest (ok_Order_greatest T) (hr.mono (by decide)) T.b_Order_greatest .nil pass0) pa_nil))) (pe_tup (pa_cons (pe_meth0 (pv 0) T.cl_Order T.m_Order_greatest (ok_Order_greatest T) (hr.mono (by decide)) T.b_Order_greatest .nil pass0) (pa_cons (pe_meth0 (pv 0) T.cl_Order T.m_Order_least (ok_Order_least T) (hr.mono (by decide)) T.b_Order_least .nil pass0) pa_nil))) (nomark _)) (pss_one (ps_ret pe_bl)) pss_nil)
      (pss_one (ps_ret (pe_cmpR (r := rEqD K) (op_eqD hr.units) (pe_tup (pa_cons (pe_meth0 (pv 2) T.cl_Order T.m_Order_least (ok_Order_least T) (hr.mono (by decide)) T.b_Order_least .nil pass0) (pa_cons (pe_meth0 (pv 2) T.cl_Order T.m_Order_greatest (ok_Order_greatest T) (hr.mono (by decide)) T.b_Order_greatest .nil pass0) pa_nil))) (pe_tup (pa_cons (pe_meth0 (pv 0) T.cl_Order T.m_Order_least (ok_Order_least T) (hr.mono (by decide)) T.b_Order_least .nil pass0) (pa_cons (pe_meth0 (pv 0) T.cl_Order T.m_Order_greatest (ok_Order_greatest T) (hr.mono (by decide)) T.b_Order_greatest .nil pass0) pa_nil))) (nomark _))))))), ?_⟩
  walk_at "n"
  refine x_forR (n := hs.length) e (ev_lenOwn (ev_var rfl r1) (by omega)) (by omega) (fun i σ' F' H' => Gr M0 F H F' H' ∧ ∃ y3 y4, σ' = [some v, some w, some u, y3, y4]) (fun F2 H2 g2 => ⟨g2, _, _, rfl⟩) ?_ ?_
  · rintro F2 e2 x σ' F' H' hx e3 e4 ⟨g, y3, y4, rfl⟩
    walk_at "n"
    refine x_forR (n := hs.length) e4 (ev_lenOwn (ev_var rfl (Mn.mono g.ff r1)) (by omega)) (by omega) (fun i σ' F'' H'' => Gr M0 F H F'' H'' ∧ Ex F' F'' ∧ ∃ y4, σ' = [some v, some w, some u, some (.int (x : Int)), y4]) (fun F5 H5 g5 => ⟨g.trans g5, g5.ff, _, rfl⟩) ?_ ?_
    · rintro F5 e5 y σ' F6 H6 hy e6 e7 ⟨g6, ex6, y4, rfl⟩
      have q1 := Mn.mono g6.ff r1
      have q2 := Mn.mono g6.ff r2
      have q3 := Mn.mono g6.ff r3
      walk_at "n"
      refine x_if (b := false) e7 (EvT.is (et_or (et_test (ev_neB (ev_meth2 (x := ht) (y := y) (z := x) (ev_var rfl q2) (ev_var rfl (rn _ y)) (ev_var rfl (rn _ x)) (by omega)) (ev_meth2 (x := hs) (y := x) (z := y) (ev_var rfl q1) (ev_var rfl (rn _ x)) (ev_var rfl (rn _ y)) (by omega)))) fun _ => et_test (ev_neB (ev_meth2 (x := hw) (y := x) (z := y) (ev_var rfl q3) (ev_var rfl (rn _ x)) (ev_var rfl (rn _ y)) (by omega)) (ev_meth2 (x := hs) (y := x) (z := y) (ev_var rfl q1) (ev_var rfl (rn _ x)) (ev_var rfl (rn _ y)) (by omega)))) ?_) (fun z => nomatch z) fun _ F7 H7 g7 => ?_
      · rw [o1.turned o2 (by omega) (by omega), o1.same o3 (by omega), decide_eq_true rfl]
        rfl
      · walk_at "n"
        exact ⟨F7, e6.trans g7.ff, g7.fh, g6.trans g7, ex6.trans g7.ff, _, rfl⟩
    · rintro σ' F6 H6 e6 e7 ⟨g6, ex6, y4, rfl⟩
      walk_at "n"
      exact ⟨F6, e3.trans ex6, e7, g6, _, _, rfl⟩
  · rintro σ' F' H' e1 e2 ⟨g, y3, y4, rfl⟩
    have q1 := Mn.mono g.ff r1
    have q2 := Mn.mono g.ff r2
    walk_at "n"
    refine x_if (b := false) e2 (EvT.is (et_test (ev_neD (R := rPr (rOpt rNat) (rOpt rNat)) (ev_pr (R := rOpt rNat) (S := rOpt rNat) (ev_meth0 (x := ht) (ev_var rfl q2) (by omega)) (ev_meth0 (x := ht) (ev_var rfl q2) (by omega))) (ev_pr (R := rOpt rNat) (S := rOpt rNat) (ev_meth0 (x := hs) (ev_var rfl q1) (by omega)) (ev_meth0 (x := hs) (ev_var rfl q1) (by omega))))) ?_) (fun z => nomatch z) fun _ F7 H7 g7 => ?_
    · rw [o1.least_turned o2, o1.greatest_turned o2, decide_eq_true rfl]
      rfl
    · have q17 := Mn.mono g7.ff q1
      have q37 := Mn.mono (g.ff.trans g7.ff) r3
      walk_at "n"
      refine x_ret (R := rBl) (x := true) g7.fh (Ev.is (ev_eqD (R := rPr (rOpt rNat) (rOpt rNat)) (ev_pr (R := rOpt rNat) (S := rOpt rNat) (ev_meth0 (x := hw) (ev_var rfl q37) (by omega)) (ev_meth0 (x := hw) (ev_var rfl q37) (by omega))) (ev_pr (R := rOpt rNat) (S := rOpt rNat) (ev_meth0 (x := hs) (ev_var rfl q17) (by omega)) (ev_meth0 (x := hs) (ev_var rfl q17) (by omega)))) ?_) fun v' F8 H8 g8 r8 => k v' F8 H8 (g.trans (g7.trans g8)) r8
      rw [o1.least_same o3, o1.greatest_same o3, decide_eq_true rfl]
abbrev sp__law_kept_right (T : Tx K mg) : Sp := Sp4 (rTurns T.C_Turns) (rOrder T.C_Order) (rOrder T.C_Order) (rOrder T.C_Order) (fun t hs ht hw => ∃ B, OrdR t.many hs B ∧ OrdR t.many ht (fun x y => B y x) ∧ OrdR t.many hw B) rBl (fun _ _ _ _ => true)
theorem ok__law_kept_right (T : Tx K mg) : FnOk P w K mg base CX0 4 T.a__law_kept_right T.d__law_kept_right ["_law_turns", "_law_order", "_law_turned", "_law_whole"] (sp__law_kept_right T) := by
  refine T.F__law_kept_right.ok sc__law_kept_right (fun vs H Q E h => SpLen.len h) (fun cdv A outer s H vs Q E hr h => ?_)
  obtain ⟨F, v, w, u, o, t, hs, ht, hw, rfl, e, r1, r2, r3, r4, ⟨B, o1, o2, o3⟩, k⟩ := h
  have ri : ∀ F (i : Int), rInt F (.int i) i := fun F i => rfl
  have rn : ∀ F (i : Nat), rNat F (.int (i : Int)) i := fun F i => rfl
  have g1k := goodK_of o1
  have g2k := goodK_of o2
  have g3k := goodK_of o3
  refine ⟨_, (by exact (pss_cons (ps_set (i := 4) sc__law_kept_right.nd rfl (Or.inl rfl) (pe_call (ok_not_kept T) (hr.mono (by decide)) rfl T.g_not_kept T.F_not_kept.kp T.b_not_kept .nil pass0 (pa_cons (pv 0) (pa_cons (pv 1) pa_nil))))
      (pss_cons (ps_set (i := 5) sc__law_kept_right.nd rfl (Or.inl rfl) (pe_call (ok_not_kept T) (hr.mono (by decide)) rfl T.g_not_kept T.F_not_kept.kp T.b_not_kept .nil pass0 (pa_cons (pv 0) (pa_cons (pv 2) pa_nil))))
      (pss_cons (ps_if (PW.pt (pw_or (pt_cmpR (r := rNeD K) (op_neD hr.units) (pe_call (ok_not_kept T) (hr.mono (by decide)) rfl T.g_not_kept T.F_not_kept.kp T.b_not_kept .nil pass0 (pa_cons (pv 0) (pa_cons (pv 3) pa_nil))) (pv 4) (nomark _)) (pw_or1 (pt_cmpR op_ne (pe_cmpR op_isN1 (pv 4) pe_non (nomark _)) (pe_cmpR op_isN1 (pv 5) pe_non (nomark _)) (nomark _))))) (pss_one (ps_ret pe_bl)) pss_nil)
      (pss_cons (ps_if (pt_cmpR op_isN1 (pv 4) pe_non (nomark _)) (pss_one (ps_ret pe_bl)) pss_nil)
      (pss_cons (ps_asg (pv 5) (kptup K (n := 3) rfl (pgs_cons (pg_name (i := 6) sc__law_kept_right.nd rfl (by first | exact Or.inl rfl | exact Or.inr rfl)) (pgs_cons (pg_name (i := 7) sc__law_kept_right.nd rfl (by first | exact Or.inl rfl | exact Or.inr rfl)) (pgs_cons (pg_name (i := 8) sc__law_kept_right.nd rfl (by first | exact Or.inl rfl | exact Or.inr rfl)) pgs_nil)))))
      (pss_cons (ps_set (i := 9) sc__law_kept_right.nd rfl (Or.inl rfl) (pe_ix (r := rIxL K) ix_list (kfld K (pv 0) rfl) (pv 6) (fun _ _ => rfl)))
      (pss_one (ps_ret (pe_and (pe_cmpR op_eq (pv 6) (pe_ix (r := rIxT K) ix_tup (pv 4) pe_int (fun _ _ => rfl)) (nomark _)) (pe_and (pe_cmpR op_ne (pv 7) (pv 8) (nomark _)) (pe_and (pe_meth (pv 1) T.cl_Order T.m_Order_at_most (ok_Order_at_most T) (hr.mono (by decide)) T.b_Order_at_most .nil pass0 (pa_cons (pv 8) (pa_cons (pv 7) pa_nil))) (pe_one (pe_not (pe_meth (pv 1) T.cl_Order T.m_Order_at_most (ok_Order_at_most T) (hr.mono (by decide)) T.b_Order_at_most .nil pass0 (pa_cons (pe_ix (r := rIxT K) ix_tup (pv 9) (pv 8) (fun _ _ => rfl)) (pa_cons (pe_ix (r := rIxT K) ix_tup (pv 9) (pv 7) (fun _ _ => rfl)) pa_nil))))))))))))))))), ?_⟩
  walk_at "n"
  refine x_set (R := rOpt rTri) (x := notKeptM t hs) e (ev_call2 (ev_var rfl r1) (ev_var rfl r2) g1k) fun v4 F1 H1 g1 r5 => ?_
  walk_at "n"
  refine x_set (R := rOpt rTri) (x := notKeptM t ht) g1.fh (ev_call2 (ev_var rfl (Mn.mono g1.ff r1)) (ev_var rfl (Mn.mono g1.ff r3)) g2k) fun v5 F2 H2 g2 r6 => ?_
  have g12 := g1.trans g2
  have r52 := Mn.mono g2.ff r5
  walk_at "n"
  refine x_if (b := false) g2.fh (EvT.is (et_or (et_test (ev_neD (R := rOpt rTri) (ev_call2 (ev_var rfl (Mn.mono g12.ff r1)) (ev_var rfl (Mn.mono g12.ff r4)) g3k) (ev_var rfl r52))) fun _ => et_test (ev_neB (ev_isN (ev_var rfl r52)) (ev_isN (ev_var rfl r6)))) ?_) (fun z => nomatch z) fun _ F3 H3 g3 => ?_
  · rw [o1.kept_same o3, none_turned o1 o2, decide_eq_true rfl, decide_eq_true rfl]
    rfl
  have g13 := g12.trans g3
  have r53 := Mn.mono g3.ff r52
  have r63 := Mn.mono g3.ff r6
  walk_at "n"
  refine x_if (b := (notKeptM t hs).isNone) g3.fh (et_test (ev_isN (ev_var rfl r53))) (fun hb F4 H4 g4 => ?_) fun hb F4 H4 g4 => ?_
  · walk_at "n"
    exact x_ret (R := rBl) (x := true) g4.fh ev_bl fun v' F5 H5 g5 r5 => k v' F5 H5 (g13.trans (g4.trans g5)) r5
  · obtain ⟨p, hp⟩ : ∃ p, notKeptM t hs = some p := by
      cases q : notKeptM t hs with
      | none => rw [q] at hb; cases hb
      | some p => exact ⟨p, rfl⟩
    obtain ⟨q, hq, q1, q2, q3, q4, q5, q6, q7⟩ := turned_bad o1 o2 hp
    rw [hp] at r53
    rw [hq] at r63
    have r54 : rTri F4 v4 p := Mn.mono g4.ff (show rTri F3 v4 p from r53)
    have r64 : rTri F4 v5 q := Mn.mono g4.ff (show rTri F3 v5 q from r63)
    have g14 := g13.trans g4
    walk_at "n"
    refine x_tri (R := rNat) (S := rNat) (T := rNat) g4.fh (ev_var rfl r64) fun v6 v7 v8 F5 H5 g5 z1 z2 z3 => ?_
    cases (show v6 = _ from z1)
    cases (show v7 = _ from z2)
    cases (show v8 = _ from z3)
    have g15 := g14.trans g5
    walk_at "n"
    refine x_set (R := rTup rNat) (x := t.maps.getD q.1 []) g5.fh (ev_ixL (ev_fld (ev_var rfl (Mn.mono g15.ff r1))) (ev_var rfl (ri _ (q.1 : Int))) (atI_natL (getD_at q2))) fun v9 F6 H6 g6 r9 => ?_
    have g16 := g15.trans g6
    have r26 := Mn.mono g16.ff r2
    have hm := t.isMap q2
    have hax : (t.maps.getD q.1 [])[q.2.1]? = some ((t.maps.getD q.1 []).getD q.2.1 0) := getD_at (by rw [hm.1]; exact q3)
    have hay : (t.maps.getD q.1 [])[q.2.2]? = some ((t.maps.getD q.1 []).getD q.2.2 0) := getD_at (by rw [hm.1]; exact q4)
    have hl1 := o1.len
    walk_at "n"
    refine x_ret (R := rBl) (x := true) g6.fh (Ev.is (ev_andV (ev_eqI (ev_var rfl (ri _ (q.1 : Int))) (ev_ixT (x := p.1) (ev_p3 (ev_var rfl (Mn.mono (g5.ff.trans g6.ff) r54))) ev_int rfl).nat) fun _ => ev_andV (ev_neI (ev_var rfl (ri _ (q.2.1 : Int))) (ev_var rfl (ri _ (q.2.2 : Int)))) fun _ => ev_andV (ev_meth2 (x := hs) (y := q.2.2) (z := q.2.1) (ev_var rfl r26) (ev_var rfl (rn _ q.2.2)) (ev_var rfl (rn _ q.2.1)) (by rw [hl1]; exact q4)) fun _ => ev_notV (ev_meth2 (x := hs) (y := (t.maps.getD q.1 []).getD q.2.2 0) (z := (t.maps.getD q.1 []).getD q.2.1 0) (ev_var rfl r26) (ev_ixT (ev_var rfl r9) (ev_var rfl (ri _ (q.2.2 : Int))) (atI_natL hay)) (ev_ixT (ev_var rfl r9) (ev_var rfl (ri _ (q.2.1 : Int))) (atI_natL hax)) (by rw [hl1]; exact hm.2 _ (List.mem_of_getElem? hay)))) ?_) fun v' F7 H7 g7 r7 => k v' F7 H7 (g16.trans g7) r7
    rw [q6, q7, decide_eq_true (show (q.1 : Int) = (p.1 : Int) by rw [q1]), decide_eq_false (show ¬ (q.2.1 : Int) = (q.2.2 : Int) by omega)]
    rfl
def spLaw (K : PySem.W.Frag) : Sp := fun vs H Q _ => ∃ (a : Addr) (ns : List Int), vs = [.ref a] ∧ SqL K H a (ns.map V.int) ∧ ns.length ≤ 63 ∧ ∀ H', Q (.bl true) H'
abbrev sp_law (T : Tx K mg) : Sp := spLaw K
instance : SpLen (spLaw K) 1 := ⟨fun ⟨_, _, h, _⟩ => by rw [h]; rfl⟩
theorem ok_law (T : Tx K mg) : FnOk P w K mg base CX0 6 T.a_law T.d_law ["_law_script"] (sp_law T) := by
  refine T.F_law.ok sc_law (fun vs H Q E h => SpLen.len h) (fun cdv A outer s H vs Q E hr h => ?_)
  obtain ⟨sa, ns, rfl, hS, hlen, k⟩ := h
  refine ⟨_, (by exact (pss_cons (ps_for PassesOwn.never rfl (klist K (pe_op op_cat (pe_slice (r := rSlL K) sl_list (pv 0) po_none (po_some pe_int)) (pe_lst (pa_cons pe_int pa_nil)))) (pg_name (i := 1) sc_law.nd rfl (by first | exact Or.inl rfl | exact Or.inr rfl)) (pss_cons (ps_set (i := 2) sc_law.nd rfl (Or.inr rfl) (pe_call (ok__law_well T) (hr.mono (by decide)) rfl T.g__law_well T.F__law_well.kp T.b__law_well .nil pass0 (pa_cons (pv 1) pa_nil)))
      (pss_cons (ps_set (i := 3) sc_law.nd rfl (Or.inr rfl) (pe_call (ok__law_ranking T) (hr.mono (by decide)) rfl T.g__law_ranking T.F__law_ranking.kp T.b__law_ranking .nil pass0 (pa_cons (pv 2) (pa_cons (pe_op op_add pe_int (pe_call (ok__law_draw T) (hr.mono (by decide)) rfl T.g__law_draw T.F__law_draw.kp T.b__law_draw .nil pass0 (pa_cons (pv 2) (pa_cons pe_int pa_nil)))) pa_nil))))
      (pss_cons (ps_set (i := 4) sc_law.nd rfl (Or.inl rfl) (pe_callB (r := rLenS K) call_len_seq (by rfl) T.z_len PySem.boot_len (pa_cons (pv 3) pa_nil)))
      (pss_cons (ps_set (i := 5) sc_law.nd rfl (Or.inl rfl) (pe_call (ok__law_pairs T) (hr.mono (by decide)) rfl T.g__law_pairs T.F__law_pairs.kp T.b__law_pairs .nil pass0 (pa_cons (pv 2) (pa_cons (pv 3) pa_nil))))
      (pss_cons (ps_set (i := 6) sc_law.nd rfl (Or.inr rfl) (pe_call (ok__law_above T) (hr.mono (by decide)) rfl T.g__law_above T.F__law_above.kp T.b__law_above .nil pass0 (pa_cons (pv 4) (pa_cons (pv 5) pa_nil))))
      (pss_cons (ps_set (i := 7) sc_law.nd rfl (Or.inr rfl) (pe_cmpR op_gt (pe_call (ok__law_draw T) (hr.mono (by decide)) rfl T.g__law_draw T.F__law_draw.kp T.b__law_draw .nil pass0 (pa_cons (pv 2) (pa_cons pe_int pa_nil))) pe_int (nomark _)))
      (pss_cons (ps_set (i := 8) sc_law.nd rfl (Or.inr rfl) (pe_lc (own := [("_law_sign", 9)]) (g := gName 9) (tt := tYes) rfl sc_law.nd (pi_range1 rfl T.z_range (pa_cons (pe_op op_add pe_int (pe_call (ok__law_draw T) (hr.mono (by decide)) rfl T.g__law_draw T.F__law_draw.kp T.b__law_draw .nil pass0 (pa_cons (pv 2) (pa_cons pe_int pa_nil)))) pa_nil)) (blkOk_by (own := [("_law_sign", 9)]) (N := N_law) (sc := defScope s_law) (by decide +kernel)) (fun _ _ _ _ _ => (pg_name (i := 9) sc_law.nd rfl (by first | exact Or.inl rfl | exact Or.inr rfl))) (fun _ _ _ _ _ => pts_nil) (fun _ _ _ _ _ => (pe_call (ok__law_step T) (hr.mono (by decide)) rfl T.g__law_step T.F__law_step.kp T.b__law_step .nil pass0 (pa_cons (pv 2) (pa_cons (pv 3) (pa_cons (pv 6) (pa_cons (pv 7) pa_nil))))))))
      (pss_cons (ps_set (i := 10) sc_law.nd rfl (Or.inl rfl) (pe_make T.mk_Turns (ok_Turns_init T) (hr.mono (by decide)) rfl T.g_Turns T.b_Turns_init .nil pass0 (pa_cons (pv 4) (pa_cons (pv 8) pa_nil))))
      (pss_cons (ps_set (i := 11) sc_law.nd rfl (Or.inl rfl) (pe_make T.mk_Order (ok_Order_init T) (hr.mono (by decide)) rfl T.g_Order T.b_Order_init .nil pass0 (pa_cons (pv 4) (pa_cons (pv 5) pa_nil))))
      (pss_cons (ps_set (i := 12) sc_law.nd rfl (Or.inl rfl) (pe_make T.mk_Order (ok_Order_init T) (hr.mono (by decide)) rfl T.g_Order T.b_Order_init .nil pass0 (pa_cons (pv 4) (pa_cons (pe_lc (own := [("_law_x", 13), ("_law_y", 14)]) (g := gTup K 2 (gCons (gName 13) (gCons (gName 14) gNil))) (tt := tYes) rfl sc_law.nd (klist K (pv 5)) (blkOk_by (own := [("_law_x", 13), ("_law_y", 14)]) (N := N_law) (sc := defScope s_law) (by decide +kernel)) (fun _ _ _ _ _ => (kptup K (n := 2) rfl (pgs_cons (pg_name (i := 13) sc_law.nd rfl (by first | exact Or.inl rfl | exact Or.inr rfl)) (pgs_cons (pg_name (i := 14) sc_law.nd rfl (by first | exact Or.inl rfl | exact Or.inr rfl)) pgs_nil)))) (fun _ _ _ _ _ => pts_nil) (fun _ _ _ _ _ => (pe_tup (pa_cons (pv 14) (pa_cons (pv 13) pa_nil))))) pa_nil))))
      (pss_cons (ps_set (i := 15) sc_law.nd rfl (Or.inl rfl) (pe_lst pa_nil))
      (pss_cons (ps_for PassesOwn.never rfl (pi_range1 rfl T.z_range (pa_cons (pv 4) pa_nil)) (pg_name (i := 13) sc_law.nd rfl (by first | exact Or.inl rfl | exact Or.inr rfl)) (pss_one (ps_set (i := 15) sc_law.nd rfl (Or.inl rfl) (pe_op op_cat (pv 15) (pe_lc (own := [("_law_y", 14)]) (g := gName 14) (tt := tYes) rfl sc_law.nd (klist K (pe_ix (r := rIxL K) ix_list (pv 6) (pv 13) (fun _ _ => rfl))) (blkOk_by (own := [("_law_y", 14)]) (N := N_law) (sc := defScope s_law) (by decide +kernel)) (fun _ _ _ _ _ => (pg_name (i := 14) sc_law.nd rfl (by first | exact Or.inl rfl | exact Or.inr rfl))) (fun _ _ _ _ _ => pts_nil) (fun _ _ _ _ _ => (pe_tup (pa_cons (pv 13) (pa_cons (pv 14) pa_nil)))))))))
      (pss_cons (ps_set (i := 15) sc_law.nd rfl (Or.inl rfl) (pe_make T.mk_Order (ok_Order_init T) (hr.mono (by decide)) rfl T.g_Order T.b_Order_init .nil pass0 (pa_cons (pv 4) (pa_cons (pv 15) pa_nil))))
      (pss_cons (ps_if (PW.pt (pw_or (pt_not (pt_val (pe_call (ok__law_orders_right T) (hr.mono (by decide)) rfl T.g__law_orders_right T.F__law_orders_right.kp T.b__law_orders_right .nil pass0 (pa_cons (pv 11) (pa_cons (pv 12) (pa_cons (pv 15) pa_nil)))))) (pw_or1 (pt_not (pt_val (pe_call (ok__law_kept_right T) (hr.mono (by decide)) rfl T.g__law_kept_right T.F__law_kept_right.kp T.b__law_kept_right .nil pass0 (pa_cons (pv 10) (pa_cons (pv 11) (pa_cons (pv 12) (pa_cons (pv 15) pa_nil)))))))))) (pss_one (ps_ret pe_bl)) pss_nil)
      (pss_cons (ps_setLc (i := 16) (own := [("_law_k", 17)]) (g := gName 17) (tt := tYes) rfl sc_law.nd rfl rfl (sw_true rfl rfl rfl (by decide +kernel)) (pi_range1 rfl T.z_range (pa_cons (pe_call (ok__law_draw T) (hr.mono (by decide)) rfl T.g__law_draw T.F__law_draw.kp T.b__law_draw .nil pass0 (pa_cons (pv 2) (pa_cons pe_int pa_nil))) pa_nil)) (blkOk_by (own := [("_law_k", 17)]) (N := N_law) (sc := defScope s_law) (by decide +kernel)) (fun _ _ _ _ _ => (pg_name (i := 17) sc_law.nd rfl (by first | exact Or.inl rfl | exact Or.inr rfl))) (fun _ _ _ _ _ => pts_nil) (fun _ _ _ _ _ => (pe_call (ok__law_draw T) (hr.mono (by decide)) rfl T.g__law_draw T.F__law_draw.kp T.b__law_draw .nil pass0 (pa_cons (pv 2) (pa_cons (pe_callB (r := rLenS K) call_len_seq (by rfl) T.z_len PySem.boot_len (pa_cons (pv 8) pa_nil)) pa_nil)))))
      (pss_cons (ps_set (i := 18) sc_law.nd rfl (Or.inl rfl) (pe_call (ok__law_told T) (hr.mono (by decide)) rfl T.g__law_told T.F__law_told.kp T.b__law_told .nil pass0 (pa_cons (pv 10) (pa_cons (pv 11) (pa_cons (pv 16) pa_nil)))))
      (pss_one (ps_if (PW.pt (pw_or (pt_cmpR (r := rNeD K) (op_neD hr.units) (pe_call (ok__law_told T) (hr.mono (by decide)) rfl T.g__law_told T.F__law_told.kp T.b__law_told .nil pass0 (pa_cons (pv 10) (pa_cons (pv 12) (pa_cons (pv 16) pa_nil)))) (pv 18) (nomark _)) (pw_or1 (pt_cmpR (r := rNeD K) (op_neD hr.units) (pe_call (ok__law_told T) (hr.mono (by decide)) rfl T.g__law_told T.F__law_told.kp T.b__law_told .nil pass0 (pa_cons (pv 10) (pa_cons (pv 15) (pa_cons (pv 16) pa_nil)))) (pv 18) (nomark _))))) (pss_one (ps_ret pe_bl)) pss_nil)))))))))))))))))))
      (pss_one (ps_ret pe_bl)))), ?_⟩
  have e : Ex (fun _ => none) H := fun a o h => nomatch h
  have ri : ∀ F (i : Int), rInt F (.int i) i := fun F i => rfl
  have rn : ∀ F (i : Nat), rNat F (.int (i : Int)) i := fun F i => rfl
  have rb : ∀ F (i : Bool), rBl F (.bl i) i := fun F i => rfl
  walk_at "n"
  refine x_forL (F := fun _ => none) (xs := ns.take 5 ++ [0]) e (ev_cat (ev_script (n := 5) (ev_var rfl rfl) hS) (ev_lst (el_cons ev_int el_nil) (by show 1 ≤ sizeLine; decide)) ?_)
    (fun i σ' F' H' => ∃ y1 y2 y3 y4 y5 y6 y7 y8 y9 y10 y11 y12 y13 y14 y15 y16 y17 y18, σ' = [some (.ref sa), y1, y2, y3, y4, y5, y6, y7, y8, y9, y10, y11, y12, y13, y14, y15, y16, y17, y18]) (fun F1 H1 g => ⟨_, _, _, _, _, _, _, _, _, _, _, _, _, _, _, _, _, _, rfl⟩) ?_ ?_
  · rw [List.length_take, sizeLine_eq]
    show min 5 ns.length + 1 ≤ _
    omega
  · rintro F1 e1 i c u σ' F' H' hx e2 e3 r ⟨y1, y2, y3, y4, y5, y6, y7, y8, y9, y10, y11, y12, y13, y14, y15, y16, y17, y18, rfl⟩
    cases (show u = _ from r)
    walk_at "n"
    refine ⟨.int c, rfl, F', c, rfl, e3, fun b H2 g2 hb fb s2 => ?_⟩
    have fb2 : F' b = none := fb
    walk_at "n"
    refine x_setS (R := rLst rNat) (c := 0 + 1 + 60) (es_call1 (R := rNat) rfl (es_toNat (es_add es_int (EvS.nat (es_callP rfl (fun _ _ _ _ => ev_lit (n := 7)) ⟨by omega, by omega⟩))) (by rintro z ⟨_, _, rfl, ⟨d, rfl, _⟩, rfl⟩; omega)) (by rintro z ⟨_, _, rfl, ⟨d, rfl, hd⟩, hz⟩; have hd : d < 7 := hd; show z ≤ 60; omega)) g2.fh fb2 s2 (by omega) fun v3 rk F3 H3 g3 fb3 s3 p3 r3 => ?_
    obtain ⟨n, ⟨_, _, rfl, ⟨d, rfl, hd⟩, hz⟩, hperm⟩ := p3
    have hd : d < 7 := hd
    have hn0 : 1 ≤ n := by omega
    have hn7 : n ≤ 7 := by omega
    obtain ⟨rnd, rlen, rm⟩ := perm_rng (show rk.Perm (List.range n) from hperm)
    walk_at "n"
    refine x_set (R := rNat) (x := n) g3.fh (Ev.toNat (Ev.is (ev_lenL (ev_var rfl r3)) (by rw [rlen]))) fun v4 F4 H4 g4 r4 => ?_
    cases (show v4 = _ from r4)
    obtain ⟨o3, ho3⟩ := s3.someO
    have r34 := Mn.mono g4.ff r3
    walk_at "n"
    refine x_setS (R := rLst (rPr rNat rNat)) (es_callP (x := rk) rfl (fun F9 H9 g9 _ => ev_var rfl (Mn.mono g9.ff r34)) ⟨by omega, by omega⟩) g4.fh (g4.nn ho3 fb3) (s3.gr g4) (by omega) fun v5 ps F5 H5 g5 fb5 s5 p5 r5 => ?_
    obtain ⟨hpl, hpk⟩ := p5
    have hp : ∀ p ∈ ps, p.1 < n ∧ p.2 < n := fun p h => ⟨(rm _).mp (rk_mem (hpk p h)).1, (rm _).mp (rk_mem (hpk p h)).2⟩
    walk_at "n"
    refine x_setS (R := rLst (rLst rNat)) (c := 0) (es_callR2 (x := n) (y := ps) (fun F9 H9 g9 _ => ev_var rfl (rn _ n)) (fun F9 H9 g9 _ => ev_var rfl (Mn.mono g9.ff r5)) ⟨by omega, by omega, hp⟩) g5.fh fb5 s5 (by omega) fun v6 hh F6 H6 g6 fb6 s6 p6 r6 => ?_
    have habv : AbvR n ps hh := p6
    obtain ⟨_, gd1, gd2, gd3, o1, o2, o3⟩ := three_orders hn0 hn7 hperm hpl hpk habv
    walk_at "n"
    refine x_setS (R := rBl) (c := 1 + 0) (es_gtI (EvS.nat (es_callP rfl (fun _ _ _ _ => ev_lit (n := 4)) ⟨by omega, by omega⟩)) es_int) g6.fh fb6 s6 (by omega) fun v7 bb F7 H7 g7 fb7 s7 _ r7 => ?_
    cases (show v7 = _ from r7)
    have r37 := Mn.mono (g5.ff.trans (g6.ff.trans g7.ff)) r34
    have r67 := Mn.mono g7.ff r6
    walk_at "n"
    refine x_setS (R := rLst (rTup rNat)) (c := 0 + 1 + 4 * 20) (es_lcR (B := 4) (c1 := 0 + 1) (c2 := 20) (P1 := fun z => 1 ≤ z ∧ z ≤ 4) (P2 := fun _ m => IsMap n m) ((es_add es_int (EvS.nat (es_callP rfl (fun _ _ _ _ => ev_lit (n := 4)) ⟨by omega, by omega⟩))).mono (by rintro z ⟨_, _, rfl, ⟨d, rfl, hd⟩, rfl⟩; have hd : d < 4 := hd; omega) (Nat.le_refl _)) (fun z hz => by omega) (by omega) (fun v => rfl) fun i hi F9 H9 g9 _ => (es_callP3 (x := rk) (y := hh) (z := bb) rfl (fun F10 H10 g10 _ => ev_var rfl (Mn.mono (g9.ff.trans g10.ff) r37)) (fun F10 H10 g10 _ => ev_var rfl (Mn.mono (g9.ff.trans g10.ff) r67)) (fun F10 H10 g10 _ => ev_var rfl (rb _ bb)) ⟨by omega, by omega, fun x => by rw [rlen]; exact rm x, by rw [habv.1, rlen]⟩).mono (fun m hm => by rw [← rlen]; exact hm) (Nat.le_refl _)) g7.fh fb7 s7 (by omega) fun v8 ms F8 H8 g8 fb8 s8 p8 r8 => ?_
    obtain ⟨nm, ⟨hm1, hm4⟩, hml, hms⟩ := p8
    let t : Tn := ⟨n, ms, hn0, by omega, by omega, by omega, fun m hm => by
      obtain ⟨i, hi⟩ := List.mem_iff_getElem?.mp hm
      exact hms i m hi⟩
    have o1 : OrdR t.many _ _ := o1
    have o2 : OrdR t.many _ _ := o2
    have o3 : OrdR t.many _ _ := o3
    have g58 := g6.trans (g7.trans g8)
    have r58 := Mn.mono g58.ff r5
    have r68 := Mn.mono (g7.ff.trans g8.ff) r6
    walk_at "n"
    refine x_set (R := rTurns T.C_Turns) (x := t) g8.fh (ev_Turns (T := t) (ev_var rfl (ri _ (n : Int))) (ev_var rfl r8)) fun v10 F10 H10 g10 r10 => ?_
    walk_at "n"
    refine x_set (R := rOrder T.C_Order) (x := aboveM n ps) g10.fh (ev_Order (ev_var rfl (ri _ (n : Int))) (ev_var rfl (Mn.mono g10.ff r58)) gd1) fun v11 F11 H11 g11 r11 => ?_
    have g811 := g10.trans g11
    walk_at "n"
    refine x_set (R := rOrder T.C_Order) (x := aboveM n (turnP ps)) g11.fh (ev_Order (ev_var rfl (ri _ (n : Int))) (ev_lcP (R := rNat) (S := rNat) (U := rPr rNat rNat) (fun p => (p.2, p.1)) (ev_var rfl (Mn.mono g811.ff r58)) (by omega) (fun v w => rfl) fun i p v w F9 H9 hx g9 q1 q2 => ev_pr (R := rNat) (S := rNat) (ev_var rfl q2) (ev_var rfl q1)) gd2) fun v12 F12 H12 g12 r12 => ?_
    have g812 := g811.trans g12
    walk_at "n"
    refine x_set (R := rLst (rPr rNat rNat)) (x := wholeM 0 hh) g12.fh (ev_lst (R := rPr rNat rNat) el_nil (Nat.zero_le _)) fun v15 F15 H15 g15 r15 => ?_
    have g815 := g812.trans g15
    obtain ⟨o8, ho8⟩ := s8.someO
    walk_at "n"
    refine x_forR (n := n) g15.fh (ev_var rfl (ri _ (n : Int))) (by omega) (fun i σ' F'' H'' => Gr M0 F15 H15 F'' H'' ∧ ∃ v15 y13 y14, rLst (rPr rNat rNat) F'' v15 (wholeM i hh) ∧ σ' = [some (.ref sa), some (.int c), some (.ref b), some v3, some (.int (n : Int)), some v5, some v6, some (.bl bb), some v8, y9, some v10, some v11, some v12, y13, y14, some v15, y16, y17, y18])
      (fun F9 H9 g9 => ⟨g9, _, _, _, Mn.mono g9.ff r15, rfl⟩) ?_ ?_
    · rintro F9 e9 x σ' F16 H16 hx e10 e11 ⟨g16, w15, y13, y14, rw, rfl⟩
      have hhx : hh[x]? = some (hh.getD x []) := at_getD (by rw [habv.1]; exact hx)
      have hlx := abv_len hp habv hx
      have wl := whole_len (hs := hh) (c := n) x fun z hz => abv_len hp habv (by omega)
      have wl2 : x * n ≤ 7 * 7 := Nat.mul_le_mul (by omega) hn7
      walk_at "n"
      refine x_set (R := rLst (rPr rNat rNat)) (x := wholeM (x + 1) hh) e11 (Ev.is (ev_cat (ev_var rfl rw) (ev_lcm (R := rNat) (S := rPr rNat rNat) (fun y => (x, y)) (ev_ixL (R := rLst rNat) (ev_var rfl (Mn.mono (g815.ff.trans g16.ff) r68)) (ev_var rfl (ri _ (x : Int))) (atI_natL hhx)) (by omega) (fun v => rfl) fun i y v F17 H17 hy g17 ry => ev_pr (R := rNat) (S := rNat) (ev_var rfl (rn _ x)) (ev_var rfl ry)) (by rw [List.length_map, sizeLine_eq]; omega)) whole_succ.symm) fun v17 F17 H17 g17 r17 => ?_
      exact ⟨F17, e10.trans g17.ff, g17.fh, g16.trans g17, v17, _, _, r17, rfl⟩
    · rintro σ' F16 H16 e10 e11 ⟨g16, w15, y13, y14, rw, rfl⟩
      walk_at "n"
      refine x_set (R := rOrder T.C_Order) (x := aboveM n (wholeM n hh)) e11 (ev_Order (ev_var rfl (ri _ (n : Int))) (ev_var rfl rw) gd3) fun v17 F17 H17 g17 r17 => ?_
      have g1217 := g15.trans (g16.trans g17)
      have g817 := g812.trans g1217
      have q10 := Mn.mono (g11.ff.trans (g12.ff.trans g1217.ff)) r10
      have q11 := Mn.mono (g12.ff.trans g1217.ff) r11
      have q12 := Mn.mono g1217.ff r12
      walk_at "n"
      refine x_if (b := false) g17.fh (EvT.is (et_or (et_not (et_B (ev_call3 (ev_var rfl q11) (ev_var rfl q12) (ev_var rfl r17) ⟨n, Blw ps, by omega, o1, o2, o3⟩))) fun _ => et_not (et_B (ev_call4 (ev_var rfl q10) (ev_var rfl q11) (ev_var rfl q12) (ev_var rfl r17) ⟨Blw ps, o1, o2, o3⟩))) rfl) (fun z => nomatch z) fun _ F18 H18 g18 => ?_
      have G := g817.trans g18
      have r818 := Mn.mono G.ff r8
      walk_at "n"
      refine x_setS (R := rLst rNat) (c := 1 + 12 * 1) (es_lcR (B := 12) (c1 := 1) (c2 := 1) (P1 := fun z => 0 ≤ z ∧ z ≤ 12) (P2 := fun _ x => x < ms.length) ((EvS.nat (es_callP rfl (fun _ _ _ _ => ev_lit (n := 13)) ⟨by omega, by omega⟩)).mono (by rintro x ⟨m, rfl, h⟩; omega) (Nat.le_refl _)) (fun _ h => h) (by omega) (fun v => rfl) fun i hi F9 H9 g9 _ => es_callP (x := ms.length) rfl (fun F2 H2 g2 _ => (ev_lenL (ev_var rfl (Mn.mono (g9.ff.trans g2.ff) r818))).toNat) ⟨by omega, by omega⟩) g18.fh (G.nn ho8 fb8) (s8.gr G) (by omega) fun v16 xs F19 H19 g19 fb19 s19 p19 r19 => ?_
      obtain ⟨_, ⟨h0, h12⟩, hwl, hws⟩ := p19
      have hsg : ∀ s ∈ xs, s < t.maps.length := fun s hs => by
        obtain ⟨i, hi⟩ := List.mem_iff_getElem?.mp hs
        exact hws i s hi
      have k19 := g18.ff.trans g19.ff
      have q10 := Mn.mono k19 q10
      have q11 := Mn.mono k19 q11
      have q12 := Mn.mono k19 q12
      have q17 := Mn.mono k19 r17
      walk_at "n"
      refine x_set (R := rTld) (x := tldM t (aboveM n ps) xs) g19.fh (ev_tld (ev_var rfl q10) (ev_var rfl q11) (ev_var rfl r19) o1 (goodK_of o1) hsg (by omega)) fun v18 F20 H20 g20 r20 => ?_
      have q10 := Mn.mono g20.ff q10
      have q12 := Mn.mono g20.ff q12
      have q17 := Mn.mono g20.ff q17
      have q16 := Mn.mono g20.ff r19
      walk_at "n"
      refine x_if (b := false) g20.fh (EvT.is (et_or (et_test (ev_neD (R := rTld) (ev_tld (ev_var rfl q10) (ev_var rfl q12) (ev_var rfl q16) o2 (goodK_of o2) hsg (by omega)) (ev_var rfl r20))) fun _ => et_test (ev_neD (R := rTld) (ev_tld (ev_var rfl q10) (ev_var rfl q17) (ev_var rfl q16) o3 (goodK_of o3) hsg (by omega)) (ev_var rfl r20))) ?_) (fun z => nomatch z) fun _ F21 H21 g21 => ?_
      · rw [o1.told_turned o2 hsg, o1.told_same o3 hsg, decide_eq_true rfl]
        rfl
      · walk_at "n"
        exact ⟨F21, e2.trans (g2.ff.trans (g3.ff.trans (g4.ff.trans (g5.ff.trans (g58.ff.trans (G.ff.trans (g19.ff.trans (g20.ff.trans g21.ff)))))))), g21.fh, _, _, _, _, _, _, _, _, _, _, _, _, _, _, _, _, _, _, rfl⟩
  · rintro σ' F' H' e1 e2 ⟨y1, y2, y3, y4, y5, y6, y7, y8, y9, y10, y11, y12, y13, y14, y15, y16, y17, y18, rfl⟩
    walk_at "n"
    exact x_ret e2 ev_bl fun v F' H' g r => by
      cases (show v = _ from r)
      exact k _

end
theorem all_mk {l : PySem.W.OpenLaw} {w : World} {K : PySem.W.Frag} {h : Heap} {mg : Str → Option Value} {fa f_is_whole f_is_between f_is_map f_Turns_init f_Turns_len f_check_signs f_is_pair f_above f_Order_init f_Order_len f_Order_at_most f_Order_least f_Order_greatest f_not_kept f_NotKept_init f_drawn_between f__law_well f__law_draw f__law_above f__law_ranking f__law_pairs f__law_step f__law_told f__law_orders_right f__law_kept_right f_law C_Order C_Turns C_DrawError C_NotKept C_NoEnds : Addr} {t_MOST_PLACES_orders t_MOST_PLACES_turns t_MOST_SIGNS : Tok} (X : K.In h) (G : h.Ns mainGlobals mg) (hfa : mg "law" = some (.ref fa))
    {od_is_whole an_is_whole : Option Addr} {sl_is_whole : Array (Option Value)} {oc_is_whole kV_is_whole dc_is_whole pm_is_whole cd_is_whole ct_is_whole : Value}
    {od_is_between an_is_between : Option Addr} {sl_is_between : Array (Option Value)} {oc_is_between kV_is_between dc_is_between pm_is_between cd_is_between ct_is_between : Value}
    {od_is_map an_is_map : Option Addr} {sl_is_map : Array (Option Value)} {oc_is_map kV_is_map dc_is_map pm_is_map cd_is_map ct_is_map : Value}
    {od_Turns_init an_Turns_init : Option Addr} {sl_Turns_init : Array (Option Value)} {oc_Turns_init kV_Turns_init dc_Turns_init pm_Turns_init cd_Turns_init ct_Turns_init : Value}
    {od_Turns_len an_Turns_len : Option Addr} {sl_Turns_len : Array (Option Value)} {oc_Turns_len kV_Turns_len dc_Turns_len pm_Turns_len cd_Turns_len ct_Turns_len : Value}
    {od_check_signs an_check_signs : Option Addr} {sl_check_signs : Array (Option Value)} {oc_check_signs kV_check_signs dc_check_signs pm_check_signs cd_check_signs ct_check_signs : Value}
    {od_is_pair an_is_pair : Option Addr} {sl_is_pair : Array (Option Value)} {oc_is_pair kV_is_pair dc_is_pair pm_is_pair cd_is_pair ct_is_pair : Value}
    {od_above an_above : Option Addr} {sl_above : Array (Option Value)} {oc_above kV_above dc_above pm_above cd_above ct_above : Value}
    {od_Order_init an_Order_init : Option Addr} {sl_Order_init : Array (Option Value)} {oc_Order_init kV_Order_init dc_Order_init pm_Order_init cd_Order_init ct_Order_init : Value}
    {od_Order_len an_Order_len : Option Addr} {sl_Order_len : Array (Option Value)} {oc_Order_len kV_Order_len dc_Order_len pm_Order_len cd_Order_len ct_Order_len : Value}
    {od_Order_at_most an_Order_at_most : Option Addr} {sl_Order_at_most : Array (Option Value)} {oc_Order_at_most kV_Order_at_most dc_Order_at_most pm_Order_at_most cd_Order_at_most ct_Order_at_most : Value}
    {od_Order_least an_Order_least : Option Addr} {sl_Order_least : Array (Option Value)} {oc_Order_least kV_Order_least dc_Order_least pm_Order_least cd_Order_least ct_Order_least : Value}
    {od_Order_greatest an_Order_greatest : Option Addr} {sl_Order_greatest : Array (Option Value)} {oc_Order_greatest kV_Order_greatest dc_Order_greatest pm_Order_greatest cd_Order_greatest ct_Order_greatest : Value}
    {od_not_kept an_not_kept : Option Addr} {sl_not_kept : Array (Option Value)} {oc_not_kept kV_not_kept dc_not_kept pm_not_kept cd_not_kept ct_not_kept : Value}
    {od_NotKept_init an_NotKept_init : Option Addr} {sl_NotKept_init : Array (Option Value)} {oc_NotKept_init kV_NotKept_init dc_NotKept_init pm_NotKept_init cd_NotKept_init ct_NotKept_init : Value}
    {od_drawn_between an_drawn_between : Option Addr} {sl_drawn_between : Array (Option Value)} {oc_drawn_between kV_drawn_between dc_drawn_between pm_drawn_between cd_drawn_between ct_drawn_between : Value}
    {od__law_well an__law_well : Option Addr} {sl__law_well : Array (Option Value)} {oc__law_well kV__law_well dc__law_well pm__law_well cd__law_well ct__law_well : Value}
    {od__law_draw an__law_draw : Option Addr} {sl__law_draw : Array (Option Value)} {oc__law_draw kV__law_draw dc__law_draw pm__law_draw cd__law_draw ct__law_draw : Value}
    {od__law_above an__law_above : Option Addr} {sl__law_above : Array (Option Value)} {oc__law_above kV__law_above dc__law_above pm__law_above cd__law_above ct__law_above : Value}
    {od__law_ranking an__law_ranking : Option Addr} {sl__law_ranking : Array (Option Value)} {oc__law_ranking kV__law_ranking dc__law_ranking pm__law_ranking cd__law_ranking ct__law_ranking : Value}
    {od__law_pairs an__law_pairs : Option Addr} {sl__law_pairs : Array (Option Value)} {oc__law_pairs kV__law_pairs dc__law_pairs pm__law_pairs cd__law_pairs ct__law_pairs : Value}
    {od__law_step an__law_step : Option Addr} {sl__law_step : Array (Option Value)} {oc__law_step kV__law_step dc__law_step pm__law_step cd__law_step ct__law_step : Value}
    {od__law_told an__law_told : Option Addr} {sl__law_told : Array (Option Value)} {oc__law_told kV__law_told dc__law_told pm__law_told cd__law_told ct__law_told : Value}
    {od__law_orders_right an__law_orders_right : Option Addr} {sl__law_orders_right : Array (Option Value)} {oc__law_orders_right kV__law_orders_right dc__law_orders_right pm__law_orders_right cd__law_orders_right ct__law_orders_right : Value}
    {od__law_kept_right an__law_kept_right : Option Addr} {sl__law_kept_right : Array (Option Value)} {oc__law_kept_right kV__law_kept_right dc__law_kept_right pm__law_kept_right cd__law_kept_right ct__law_kept_right : Value}
    {od_law an_law : Option Addr} {sl_law : Array (Option Value)} {oc_law kV_law dc_law pm_law cd_law ct_law : Value}
    {xn_NotKept xq_NotKept : Str} {xN_NotKept : Addr} {xb_NotKept xm_NotKept : List Value} {xs_NotKept : List Str} {xu_NotKept : List Value} {xa_NotKept : Bool} {xc_NotKept : Option Bool} {xd_NotKept : Option Addr} {x0_NotKept x1_NotKept x2_NotKept x3_NotKept x5_NotKept : Option Value}
    (aC_Order : PySem.W.nsIn K mainGlobals "Order" = some (some (.ref C_Order)))
    (aC_Turns : PySem.W.nsIn K mainGlobals "Turns" = some (some (.ref C_Turns)))
    (aC_DrawError : PySem.W.nsIn K mainGlobals "DrawError" = some (some (.ref C_DrawError)))
    (aC_NotKept : PySem.W.nsIn K mainGlobals "NotKept" = some (some (.ref C_NotKept)))
    (aC_NoEnds : PySem.W.nsIn K mainGlobals "NoEnds" = some (some (.ref C_NoEnds)))
    (a_is_whole : PySem.W.nsIn K mainGlobals "is_whole" = some (some (.ref f_is_whole)))
    (l_is_whole : K.lookup f_is_whole = some ⟨oc_is_whole, od_is_whole, .func (PySem.W.fnOf "is_whole" "is_whole" (defArgs s_is_whole) (defBody s_is_whole) (defScope s_is_whole) .none kV_is_whole dc_is_whole pm_is_whole an_is_whole cd_is_whole ct_is_whole), sl_is_whole⟩)
    (c_is_whole : PySem.W.codeIn K cd_is_whole "is_whole" = true)
    (k_is_whole : PySem.W.keepIn K (.ref f_is_whole) = true)
    (a_is_between : PySem.W.nsIn K mainGlobals "is_between" = some (some (.ref f_is_between)))
    (l_is_between : K.lookup f_is_between = some ⟨oc_is_between, od_is_between, .func (PySem.W.fnOf "is_between" "is_between" (defArgs s_is_between) (defBody s_is_between) (defScope s_is_between) .none kV_is_between dc_is_between pm_is_between an_is_between cd_is_between ct_is_between), sl_is_between⟩)
    (c_is_between : PySem.W.codeIn K cd_is_between "is_between" = true)
    (k_is_between : PySem.W.keepIn K (.ref f_is_between) = true)
    (a_is_map : PySem.W.nsIn K mainGlobals "is_map" = some (some (.ref f_is_map)))
    (l_is_map : K.lookup f_is_map = some ⟨oc_is_map, od_is_map, .func (PySem.W.fnOf "is_map" "is_map" (defArgs s_is_map) (defBody s_is_map) (defScope s_is_map) .none kV_is_map dc_is_map pm_is_map an_is_map cd_is_map ct_is_map), sl_is_map⟩)
    (c_is_map : PySem.W.codeIn K cd_is_map "is_map" = true)
    (k_is_map : PySem.W.keepIn K (.ref f_is_map) = true)
    (a_Turns_init : PySem.W.findIn K (.ref C_Turns) "__init__" = some (some (.ref f_Turns_init)))
    (i_Turns_init : PySem.W.isFn K (.ref f_Turns_init) = true)
    (l_Turns_init : K.lookup f_Turns_init = some ⟨oc_Turns_init, od_Turns_init, .func (PySem.W.fnOf "__init__" "Turns.__init__" (defArgs s_Turns_init) (defBody s_Turns_init) (defScope s_Turns_init) .none kV_Turns_init dc_Turns_init pm_Turns_init an_Turns_init cd_Turns_init ct_Turns_init), sl_Turns_init⟩)
    (c_Turns_init : PySem.W.codeIn K cd_Turns_init "Turns.__init__" = true)
    (k_Turns_init : PySem.W.keepIn K (.ref f_Turns_init) = true)
    (a_Turns_len : PySem.W.findIn K (.ref C_Turns) "__len__" = some (some (.ref f_Turns_len)))
    (i_Turns_len : PySem.W.isFn K (.ref f_Turns_len) = true)
    (l_Turns_len : K.lookup f_Turns_len = some ⟨oc_Turns_len, od_Turns_len, .func (PySem.W.fnOf "__len__" "Turns.__len__" (defArgs s_Turns_len) (defBody s_Turns_len) (defScope s_Turns_len) .none kV_Turns_len dc_Turns_len pm_Turns_len an_Turns_len cd_Turns_len ct_Turns_len), sl_Turns_len⟩)
    (c_Turns_len : PySem.W.codeIn K cd_Turns_len "Turns.__len__" = true)
    (k_Turns_len : PySem.W.keepIn K (.ref f_Turns_len) = true)
    (a_check_signs : PySem.W.nsIn K mainGlobals "check_signs" = some (some (.ref f_check_signs)))
    (l_check_signs : K.lookup f_check_signs = some ⟨oc_check_signs, od_check_signs, .func (PySem.W.fnOf "check_signs" "check_signs" (defArgs s_check_signs) (defBody s_check_signs) (defScope s_check_signs) .none kV_check_signs dc_check_signs pm_check_signs an_check_signs cd_check_signs ct_check_signs), sl_check_signs⟩)
    (c_check_signs : PySem.W.codeIn K cd_check_signs "check_signs" = true)
    (k_check_signs : PySem.W.keepIn K (.ref f_check_signs) = true)
    (a_is_pair : PySem.W.nsIn K mainGlobals "is_pair" = some (some (.ref f_is_pair)))
    (l_is_pair : K.lookup f_is_pair = some ⟨oc_is_pair, od_is_pair, .func (PySem.W.fnOf "is_pair" "is_pair" (defArgs s_is_pair) (defBody s_is_pair) (defScope s_is_pair) .none kV_is_pair dc_is_pair pm_is_pair an_is_pair cd_is_pair ct_is_pair), sl_is_pair⟩)
    (c_is_pair : PySem.W.codeIn K cd_is_pair "is_pair" = true)
    (k_is_pair : PySem.W.keepIn K (.ref f_is_pair) = true)
    (a_above : PySem.W.nsIn K mainGlobals "above" = some (some (.ref f_above)))
    (l_above : K.lookup f_above = some ⟨oc_above, od_above, .func (PySem.W.fnOf "above" "above" (defArgs s_above) (defBody s_above) (defScope s_above) .none kV_above dc_above pm_above an_above cd_above ct_above), sl_above⟩)
    (c_above : PySem.W.codeIn K cd_above "above" = true)
    (k_above : PySem.W.keepIn K (.ref f_above) = true)
    (a_Order_init : PySem.W.findIn K (.ref C_Order) "__init__" = some (some (.ref f_Order_init)))
    (i_Order_init : PySem.W.isFn K (.ref f_Order_init) = true)
    (l_Order_init : K.lookup f_Order_init = some ⟨oc_Order_init, od_Order_init, .func (PySem.W.fnOf "__init__" "Order.__init__" (defArgs s_Order_init) (defBody s_Order_init) (defScope s_Order_init) .none kV_Order_init dc_Order_init pm_Order_init an_Order_init cd_Order_init ct_Order_init), sl_Order_init⟩)
    (c_Order_init : PySem.W.codeIn K cd_Order_init "Order.__init__" = true)
    (k_Order_init : PySem.W.keepIn K (.ref f_Order_init) = true)
    (a_Order_len : PySem.W.findIn K (.ref C_Order) "__len__" = some (some (.ref f_Order_len)))
    (i_Order_len : PySem.W.isFn K (.ref f_Order_len) = true)
    (l_Order_len : K.lookup f_Order_len = some ⟨oc_Order_len, od_Order_len, .func (PySem.W.fnOf "__len__" "Order.__len__" (defArgs s_Order_len) (defBody s_Order_len) (defScope s_Order_len) .none kV_Order_len dc_Order_len pm_Order_len an_Order_len cd_Order_len ct_Order_len), sl_Order_len⟩)
    (c_Order_len : PySem.W.codeIn K cd_Order_len "Order.__len__" = true)
    (k_Order_len : PySem.W.keepIn K (.ref f_Order_len) = true)
    (a_Order_at_most : PySem.W.findIn K (.ref C_Order) "at_most" = some (some (.ref f_Order_at_most)))
    (i_Order_at_most : PySem.W.isFn K (.ref f_Order_at_most) = true)
    (l_Order_at_most : K.lookup f_Order_at_most = some ⟨oc_Order_at_most, od_Order_at_most, .func (PySem.W.fnOf "at_most" "Order.at_most" (defArgs s_Order_at_most) (defBody s_Order_at_most) (defScope s_Order_at_most) .none kV_Order_at_most dc_Order_at_most pm_Order_at_most an_Order_at_most cd_Order_at_most ct_Order_at_most), sl_Order_at_most⟩)
    (c_Order_at_most : PySem.W.codeIn K cd_Order_at_most "Order.at_most" = true)
    (k_Order_at_most : PySem.W.keepIn K (.ref f_Order_at_most) = true)
    (a_Order_least : PySem.W.findIn K (.ref C_Order) "least" = some (some (.ref f_Order_least)))
    (i_Order_least : PySem.W.isFn K (.ref f_Order_least) = true)
    (l_Order_least : K.lookup f_Order_least = some ⟨oc_Order_least, od_Order_least, .func (PySem.W.fnOf "least" "Order.least" (defArgs s_Order_least) (defBody s_Order_least) (defScope s_Order_least) .none kV_Order_least dc_Order_least pm_Order_least an_Order_least cd_Order_least ct_Order_least), sl_Order_least⟩)
    (c_Order_least : PySem.W.codeIn K cd_Order_least "Order.least" = true)
    (k_Order_least : PySem.W.keepIn K (.ref f_Order_least) = true)
    (a_Order_greatest : PySem.W.findIn K (.ref C_Order) "greatest" = some (some (.ref f_Order_greatest)))
    (i_Order_greatest : PySem.W.isFn K (.ref f_Order_greatest) = true)
    (l_Order_greatest : K.lookup f_Order_greatest = some ⟨oc_Order_greatest, od_Order_greatest, .func (PySem.W.fnOf "greatest" "Order.greatest" (defArgs s_Order_greatest) (defBody s_Order_greatest) (defScope s_Order_greatest) .none kV_Order_greatest dc_Order_greatest pm_Order_greatest an_Order_greatest cd_Order_greatest ct_Order_greatest), sl_Order_greatest⟩)
    (c_Order_greatest : PySem.W.codeIn K cd_Order_greatest "Order.greatest" = true)
    (k_Order_greatest : PySem.W.keepIn K (.ref f_Order_greatest) = true)
    (a_not_kept : PySem.W.nsIn K mainGlobals "not_kept" = some (some (.ref f_not_kept)))
    (l_not_kept : K.lookup f_not_kept = some ⟨oc_not_kept, od_not_kept, .func (PySem.W.fnOf "not_kept" "not_kept" (defArgs s_not_kept) (defBody s_not_kept) (defScope s_not_kept) .none kV_not_kept dc_not_kept pm_not_kept an_not_kept cd_not_kept ct_not_kept), sl_not_kept⟩)
    (c_not_kept : PySem.W.codeIn K cd_not_kept "not_kept" = true)
    (k_not_kept : PySem.W.keepIn K (.ref f_not_kept) = true)
    (a_NotKept_init : PySem.W.findIn K (.ref C_NotKept) "__init__" = some (some (.ref f_NotKept_init)))
    (i_NotKept_init : PySem.W.isFn K (.ref f_NotKept_init) = true)
    (l_NotKept_init : K.lookup f_NotKept_init = some ⟨oc_NotKept_init, od_NotKept_init, .func (PySem.W.fnOf "__init__" "NotKept.__init__" (defArgs s_NotKept_init) (defBody s_NotKept_init) (defScope s_NotKept_init) .none kV_NotKept_init dc_NotKept_init pm_NotKept_init an_NotKept_init cd_NotKept_init ct_NotKept_init), sl_NotKept_init⟩)
    (c_NotKept_init : PySem.W.codeIn K cd_NotKept_init "NotKept.__init__" = true)
    (k_NotKept_init : PySem.W.keepIn K (.ref f_NotKept_init) = true)
    (a_drawn_between : PySem.W.nsIn K mainGlobals "drawn_between" = some (some (.ref f_drawn_between)))
    (l_drawn_between : K.lookup f_drawn_between = some ⟨oc_drawn_between, od_drawn_between, .func (PySem.W.fnOf "drawn_between" "drawn_between" (defArgs s_drawn_between) (defBody s_drawn_between) (defScope s_drawn_between) .none kV_drawn_between dc_drawn_between pm_drawn_between an_drawn_between cd_drawn_between ct_drawn_between), sl_drawn_between⟩)
    (c_drawn_between : PySem.W.codeIn K cd_drawn_between "drawn_between" = true)
    (k_drawn_between : PySem.W.keepIn K (.ref f_drawn_between) = true)
    (a__law_well : PySem.W.nsIn K mainGlobals "_law_well" = some (some (.ref f__law_well)))
    (l__law_well : K.lookup f__law_well = some ⟨oc__law_well, od__law_well, .func (PySem.W.fnOf "_law_well" "_law_well" (defArgs s__law_well) (defBody s__law_well) (defScope s__law_well) .none kV__law_well dc__law_well pm__law_well an__law_well cd__law_well ct__law_well), sl__law_well⟩)
    (c__law_well : PySem.W.codeIn K cd__law_well "_law_well" = true)
    (k__law_well : PySem.W.keepIn K (.ref f__law_well) = true)
    (a__law_draw : PySem.W.nsIn K mainGlobals "_law_draw" = some (some (.ref f__law_draw)))
    (l__law_draw : K.lookup f__law_draw = some ⟨oc__law_draw, od__law_draw, .func (PySem.W.fnOf "_law_draw" "_law_draw" (defArgs s__law_draw) (defBody s__law_draw) (defScope s__law_draw) .none kV__law_draw dc__law_draw pm__law_draw an__law_draw cd__law_draw ct__law_draw), sl__law_draw⟩)
    (c__law_draw : PySem.W.codeIn K cd__law_draw "_law_draw" = true)
    (k__law_draw : PySem.W.keepIn K (.ref f__law_draw) = true)
    (a__law_above : PySem.W.nsIn K mainGlobals "_law_above" = some (some (.ref f__law_above)))
    (l__law_above : K.lookup f__law_above = some ⟨oc__law_above, od__law_above, .func (PySem.W.fnOf "_law_above" "_law_above" (defArgs s__law_above) (defBody s__law_above) (defScope s__law_above) .none kV__law_above dc__law_above pm__law_above an__law_above cd__law_above ct__law_above), sl__law_above⟩)
    (c__law_above : PySem.W.codeIn K cd__law_above "_law_above" = true)
    (k__law_above : PySem.W.keepIn K (.ref f__law_above) = true)
    (a__law_ranking : PySem.W.nsIn K mainGlobals "_law_ranking" = some (some (.ref f__law_ranking)))
    (l__law_ranking : K.lookup f__law_ranking = some ⟨oc__law_ranking, od__law_ranking, .func (PySem.W.fnOf "_law_ranking" "_law_ranking" (defArgs s__law_ranking) (defBody s__law_ranking) (defScope s__law_ranking) .none kV__law_ranking dc__law_ranking pm__law_ranking an__law_ranking cd__law_ranking ct__law_ranking), sl__law_ranking⟩)
    (c__law_ranking : PySem.W.codeIn K cd__law_ranking "_law_ranking" = true)
    (k__law_ranking : PySem.W.keepIn K (.ref f__law_ranking) = true)
    (a__law_pairs : PySem.W.nsIn K mainGlobals "_law_pairs" = some (some (.ref f__law_pairs)))
    (l__law_pairs : K.lookup f__law_pairs = some ⟨oc__law_pairs, od__law_pairs, .func (PySem.W.fnOf "_law_pairs" "_law_pairs" (defArgs s__law_pairs) (defBody s__law_pairs) (defScope s__law_pairs) .none kV__law_pairs dc__law_pairs pm__law_pairs an__law_pairs cd__law_pairs ct__law_pairs), sl__law_pairs⟩)
    (c__law_pairs : PySem.W.codeIn K cd__law_pairs "_law_pairs" = true)
    (k__law_pairs : PySem.W.keepIn K (.ref f__law_pairs) = true)
    (a__law_step : PySem.W.nsIn K mainGlobals "_law_step" = some (some (.ref f__law_step)))
    (l__law_step : K.lookup f__law_step = some ⟨oc__law_step, od__law_step, .func (PySem.W.fnOf "_law_step" "_law_step" (defArgs s__law_step) (defBody s__law_step) (defScope s__law_step) .none kV__law_step dc__law_step pm__law_step an__law_step cd__law_step ct__law_step), sl__law_step⟩)
    (c__law_step : PySem.W.codeIn K cd__law_step "_law_step" = true)
    (k__law_step : PySem.W.keepIn K (.ref f__law_step) = true)
    (a__law_told : PySem.W.nsIn K mainGlobals "_law_told" = some (some (.ref f__law_told)))
    (l__law_told : K.lookup f__law_told = some ⟨oc__law_told, od__law_told, .func (PySem.W.fnOf "_law_told" "_law_told" (defArgs s__law_told) (defBody s__law_told) (defScope s__law_told) .none kV__law_told dc__law_told pm__law_told an__law_told cd__law_told ct__law_told), sl__law_told⟩)
    (c__law_told : PySem.W.codeIn K cd__law_told "_law_told" = true)
    (k__law_told : PySem.W.keepIn K (.ref f__law_told) = true)
    (a__law_orders_right : PySem.W.nsIn K mainGlobals "_law_orders_right" = some (some (.ref f__law_orders_right)))
    (l__law_orders_right : K.lookup f__law_orders_right = some ⟨oc__law_orders_right, od__law_orders_right, .func (PySem.W.fnOf "_law_orders_right" "_law_orders_right" (defArgs s__law_orders_right) (defBody s__law_orders_right) (defScope s__law_orders_right) .none kV__law_orders_right dc__law_orders_right pm__law_orders_right an__law_orders_right cd__law_orders_right ct__law_orders_right), sl__law_orders_right⟩)
    (c__law_orders_right : PySem.W.codeIn K cd__law_orders_right "_law_orders_right" = true)
    (k__law_orders_right : PySem.W.keepIn K (.ref f__law_orders_right) = true)
    (a__law_kept_right : PySem.W.nsIn K mainGlobals "_law_kept_right" = some (some (.ref f__law_kept_right)))
    (l__law_kept_right : K.lookup f__law_kept_right = some ⟨oc__law_kept_right, od__law_kept_right, .func (PySem.W.fnOf "_law_kept_right" "_law_kept_right" (defArgs s__law_kept_right) (defBody s__law_kept_right) (defScope s__law_kept_right) .none kV__law_kept_right dc__law_kept_right pm__law_kept_right an__law_kept_right cd__law_kept_right ct__law_kept_right), sl__law_kept_right⟩)
    (c__law_kept_right : PySem.W.codeIn K cd__law_kept_right "_law_kept_right" = true)
    (k__law_kept_right : PySem.W.keepIn K (.ref f__law_kept_right) = true)
    (a_law : PySem.W.nsIn K mainGlobals "law" = some (some (.ref f_law)))
    (l_law : K.lookup f_law = some ⟨oc_law, od_law, .func (PySem.W.fnOf "law" "law" (defArgs s_law) (defBody s_law) (defScope s_law) .none kV_law dc_law pm_law an_law cd_law ct_law), sl_law⟩)
    (c_law : PySem.W.codeIn K cd_law "law" = true)
    (k_law : PySem.W.keepIn K (.ref f_law) = true)
    (pg_Order : PySem.W.plainGet K C_Order Str.empty = true)
    (hd_Order : PySem.W.hasDictIn K C_Order = true)
    (po_Order : PySem.W.plainOver K C_Order = true)
    (sa_Order : PySem.W.findIn K (.ref C_Order) "__setattr__" = some (some (.builtin "object.__setattr__")))
    (kc_Order : PySem.W.keepIn K (.ref C_Order) = true)
    (mk_Order : PySem.W.makesIn K C_Order = true)
    (pg_Turns : PySem.W.plainGet K C_Turns Str.empty = true)
    (hd_Turns : PySem.W.hasDictIn K C_Turns = true)
    (po_Turns : PySem.W.plainOver K C_Turns = true)
    (sa_Turns : PySem.W.findIn K (.ref C_Turns) "__setattr__" = some (some (.builtin "object.__setattr__")))
    (kc_Turns : PySem.W.keepIn K (.ref C_Turns) = true)
    (mk_Turns : PySem.W.makesIn K C_Turns = true)
    (bg_DrawError : PySem.W.specialIn K (.ref C_DrawError) "__getattribute__" = some (some (.builtin "type.__getattribute__")))
    (br_DrawError : PySem.W.readsIn K C_DrawError (.type "type") = true)
    (bt_DrawError : PySem.W.typeIn K (.ref C_DrawError) = some (.type "type"))
    (bi_DrawError : PySem.W.findCls K (.ref C_DrawError) (.type "type") "__init__" = some (.val (.builtin "ValueError.__init__")))
    (xL_NotKept : K.lookup C_NotKept = some (excClassObj xn_NotKept xq_NotKept C_NotKept xN_NotKept xb_NotKept xm_NotKept true xs_NotKept xu_NotKept xa_NotKept xc_NotKept xd_NotKept x0_NotKept x1_NotKept x2_NotKept x3_NotKept x5_NotKept "ValueError.__new__"))
    (xv_NotKept : PySem.HandSPX.refsVE xm_NotKept = true)
    (xsa_NotKept : PySem.W.findIn K (.ref C_NotKept) "__setattr__" = some (some (.builtin "object.__setattr__")))
    (xec_NotKept : PySem.W.subIn K (.ref C_NotKept) (.type "BaseException") = some true)
    (xty_NotKept : PySem.W.typeIn K (.ref C_NotKept) = some (.type "type"))
    (xkc_NotKept : PySem.W.keepIn K (.ref C_NotKept) = true)
    (xtf_NotKept : PySem.W.typeIn K (.ref f_NotKept_init) = some (.type "function"))
    (xga_NotKept : PySem.W.findIn K (.ref C_NotKept) "__getattribute__" = some (some (.builtin "BaseException.__getattribute__")))
    (xgg_NotKept : PySem.W.findIn K (.ref C_NotKept) "__getattr__" = some none)
    (xhd_NotKept : PySem.W.hasDictIn K C_NotKept = true)
    (xnf_NotKept : PySem.W.findIn K (.ref C_NotKept) "kept" = some none)
    (xic_NotKept : PySem.W.isClsIn K C_NotKept = true)
    (xsc_NotKept : PySem.W.subIn K (.ref C_NotKept) (.ref C_NotKept) = some true)
    (xp_NoEnds : PySem.W.excIn K C_NoEnds [.type "ValueError", .type "Exception", .type "BaseException", .type "object"] "ValueError.__new__" = true)
    (xkc_NoEnds : PySem.W.keepIn K (.ref C_NoEnds) = true)
    (xec_NoEnds : PySem.W.subIn K (.ref C_NoEnds) (.type "BaseException") = some true)
    (xty_NoEnds : PySem.W.typeIn K (.ref C_NoEnds) = some (.type "type"))
    (xic_NoEnds : PySem.W.isClsIn K C_NoEnds = true)
    (xsc_NoEnds : PySem.W.subIn K (.ref C_NoEnds) (.ref C_NoEnds) = some true)
    (xm_NoEnds_NotKept : PySem.W.subIn K (.ref C_NoEnds) (.ref C_NotKept) = some false)
    (na_Order_higher : PySem.W.findIn K (.ref C_Order) "higher" = some none)
    (na_Turns_many : PySem.W.findIn K (.ref C_Turns) "many" = some none)
    (na_Turns_maps : PySem.W.findIn K (.ref C_Turns) "maps" = some none)
    (z_all : PySem.W.nsIn K mainGlobals "all" = some none)
    (z_any : PySem.W.nsIn K mainGlobals "any" = some none)
    (z_bool : PySem.W.nsIn K mainGlobals "bool" = some none)
    (z_enumerate : PySem.W.nsIn K mainGlobals "enumerate" = some none)
    (z_int : PySem.W.nsIn K mainGlobals "int" = some none)
    (z_isinstance : PySem.W.nsIn K mainGlobals "isinstance" = some none)
    (z_len : PySem.W.nsIn K mainGlobals "len" = some none)
    (z_list : PySem.W.nsIn K mainGlobals "list" = some none)
    (z_max : PySem.W.nsIn K mainGlobals "max" = some none)
    (z_min : PySem.W.nsIn K mainGlobals "min" = some none)
    (z_range : PySem.W.nsIn K mainGlobals "range" = some none)
    (z_set : PySem.W.nsIn K mainGlobals "set" = some none)
    (z_sorted : PySem.W.nsIn K mainGlobals "sorted" = some none)
    (z_tuple : PySem.W.nsIn K mainGlobals "tuple" = some none)
    (g_MOST_PLACES_orders : PySem.W.nsIn K mainGlobals "MOST_PLACES_orders" = some (some (.int 32 t_MOST_PLACES_orders)))
    (g_MOST_PLACES_turns : PySem.W.nsIn K mainGlobals "MOST_PLACES_turns" = some (some (.int 32 t_MOST_PLACES_turns)))
    (g_MOST_SIGNS : PySem.W.nsIn K mainGlobals "MOST_SIGNS" = some (some (.int 200 t_MOST_SIGNS)))
    : ∃ fd : FuncData, (∀ (s : Shared) (v : Value), BindsTo s fd ⟨[v], []⟩ [("_law_script", v)]) ∧ ∀ base : Heap, K.In base → base.Ns mainGlobals mg → FnOk l.prog w K mg base CX0 6 fa fd ["_law_script"] (spLaw K) := by
  have e : f_law = fa := by
    have e := hfa.symm.trans (PySem.W.mg_of X G a_law)
    cases e
    rfl
  subst e
  have F_is_whole := fun_mk (st := s_is_whole) l_is_whole c_is_whole k_is_whole
  have b_is_whole := F_is_whole.binds (ps := ["thing"]) fun _ _ _ _ _ _ us hl => match us, hl with | [_], _ => rfl
  have F_is_between := fun_mk (st := s_is_between) l_is_between c_is_between k_is_between
  have b_is_between := F_is_between.binds (ps := ["thing", "least", "most"]) fun _ _ _ _ _ _ us hl => match us, hl with | [_, _, _], _ => rfl
  have F_is_map := fun_mk (st := s_is_map) l_is_map c_is_map k_is_map
  have b_is_map := F_is_map.binds (ps := ["thing", "many"]) fun _ _ _ _ _ _ us hl => match us, hl with | [_, _], _ => rfl
  have F_Turns_init := fun_mk (st := s_Turns_init) l_Turns_init c_Turns_init k_Turns_init
  have b_Turns_init := F_Turns_init.binds (ps := ["self", "many", "maps"]) fun _ _ _ _ _ _ us hl => match us, hl with | [_, _, _], _ => rfl
  have F_Turns_len := fun_mk (st := s_Turns_len) l_Turns_len c_Turns_len k_Turns_len
  have b_Turns_len := F_Turns_len.binds (ps := ["self"]) fun _ _ _ _ _ _ us hl => match us, hl with | [_], _ => rfl
  have F_check_signs := fun_mk (st := s_check_signs) l_check_signs c_check_signs k_check_signs
  have b_check_signs := F_check_signs.binds (ps := ["turns", "signs"]) fun _ _ _ _ _ _ us hl => match us, hl with | [_, _], _ => rfl
  have F_is_pair := fun_mk (st := s_is_pair) l_is_pair c_is_pair k_is_pair
  have b_is_pair := F_is_pair.binds (ps := ["thing", "many"]) fun _ _ _ _ _ _ us hl => match us, hl with | [_, _], _ => rfl
  have F_above := fun_mk (st := s_above) l_above c_above k_above
  have b_above := F_above.binds (ps := ["pairs", "many"]) fun _ _ _ _ _ _ us hl => match us, hl with | [_, _], _ => rfl
  have F_Order_init := fun_mk (st := s_Order_init) l_Order_init c_Order_init k_Order_init
  have b_Order_init := F_Order_init.binds (ps := ["self", "many", "pairs"]) fun _ _ _ _ _ _ us hl => match us, hl with | [_, _, _], _ => rfl
  have F_Order_len := fun_mk (st := s_Order_len) l_Order_len c_Order_len k_Order_len
  have b_Order_len := F_Order_len.binds (ps := ["self"]) fun _ _ _ _ _ _ us hl => match us, hl with | [_], _ => rfl
  have F_Order_at_most := fun_mk (st := s_Order_at_most) l_Order_at_most c_Order_at_most k_Order_at_most
  have b_Order_at_most := F_Order_at_most.binds (ps := ["self", "x", "y"]) fun _ _ _ _ _ _ us hl => match us, hl with | [_, _, _], _ => rfl
  have F_Order_least := fun_mk (st := s_Order_least) l_Order_least c_Order_least k_Order_least
  have b_Order_least := F_Order_least.binds (ps := ["self"]) fun _ _ _ _ _ _ us hl => match us, hl with | [_], _ => rfl
  have F_Order_greatest := fun_mk (st := s_Order_greatest) l_Order_greatest c_Order_greatest k_Order_greatest
  have b_Order_greatest := F_Order_greatest.binds (ps := ["self"]) fun _ _ _ _ _ _ us hl => match us, hl with | [_], _ => rfl
  have F_not_kept := fun_mk (st := s_not_kept) l_not_kept c_not_kept k_not_kept
  have b_not_kept := F_not_kept.binds (ps := ["turns", "order"]) fun _ _ _ _ _ _ us hl => match us, hl with | [_, _], _ => rfl
  have F_NotKept_init := fun_mk (st := s_NotKept_init) l_NotKept_init c_NotKept_init k_NotKept_init
  have b_NotKept_init := F_NotKept_init.binds (ps := ["self", "kept"]) fun _ _ _ _ _ _ us hl => match us, hl with | [_, _], _ => rfl
  have F_drawn_between := fun_mk (st := s_drawn_between) l_drawn_between c_drawn_between k_drawn_between
  have b_drawn_between := F_drawn_between.binds (ps := ["turns", "order", "signs"]) fun _ _ _ _ _ _ us hl => match us, hl with | [_, _, _], _ => rfl
  have F__law_well := fun_mk (st := s__law_well) l__law_well c__law_well k__law_well
  have b__law_well := F__law_well.binds (ps := ["_law_cell"]) fun _ _ _ _ _ _ us hl => match us, hl with | [_], _ => rfl
  have F__law_draw := fun_mk (st := s__law_draw) l__law_draw c__law_draw k__law_draw
  have b__law_draw := F__law_draw.binds (ps := ["_law_well_here", "_law_many"]) fun _ _ _ _ _ _ us hl => match us, hl with | [_, _], _ => rfl
  have F__law_above := fun_mk (st := s__law_above) l__law_above c__law_above k__law_above
  have b__law_above := F__law_above.binds (ps := ["_law_many", "_law_pairs_here"]) fun _ _ _ _ _ _ us hl => match us, hl with | [_, _], _ => rfl
  have F__law_ranking := fun_mk (st := s__law_ranking) l__law_ranking c__law_ranking k__law_ranking
  have b__law_ranking := F__law_ranking.binds (ps := ["_law_well_here", "_law_many"]) fun _ _ _ _ _ _ us hl => match us, hl with | [_, _], _ => rfl
  have F__law_pairs := fun_mk (st := s__law_pairs) l__law_pairs c__law_pairs k__law_pairs
  have b__law_pairs := F__law_pairs.binds (ps := ["_law_well_here", "_law_ranking_here"]) fun _ _ _ _ _ _ us hl => match us, hl with | [_, _], _ => rfl
  have F__law_step := fun_mk (st := s__law_step) l__law_step c__law_step k__law_step
  have b__law_step := F__law_step.binds (ps := ["_law_well_here", "_law_ranking_here", "_law_higher", "_law_is_kept"]) fun _ _ _ _ _ _ us hl => match us, hl with | [_, _, _, _], _ => rfl
  have F__law_told := fun_mk (st := s__law_told) l__law_told c__law_told k__law_told
  have b__law_told := F__law_told.binds (ps := ["_law_turns", "_law_order", "_law_signs"]) fun _ _ _ _ _ _ us hl => match us, hl with | [_, _, _], _ => rfl
  have F__law_orders_right := fun_mk (st := s__law_orders_right) l__law_orders_right c__law_orders_right k__law_orders_right
  have b__law_orders_right := F__law_orders_right.binds (ps := ["_law_order", "_law_turned", "_law_whole"]) fun _ _ _ _ _ _ us hl => match us, hl with | [_, _, _], _ => rfl
  have F__law_kept_right := fun_mk (st := s__law_kept_right) l__law_kept_right c__law_kept_right k__law_kept_right
  have b__law_kept_right := F__law_kept_right.binds (ps := ["_law_turns", "_law_order", "_law_turned", "_law_whole"]) fun _ _ _ _ _ _ us hl => match us, hl with | [_, _, _, _], _ => rfl
  have F_law := fun_mk (st := s_law) l_law c_law k_law
  have b_law := F_law.binds (ps := ["_law_script"]) fun _ _ _ _ _ _ us hl => match us, hl with | [_], _ => rfl
  let T : Tx K mg := {
a_is_whole := f_is_whole,
    d_is_whole := _,
    F_is_whole := F_is_whole,
    b_is_whole := b_is_whole,
    g_is_whole := PySem.W.mg_of X G a_is_whole,
    a_is_between := f_is_between,
    d_is_between := _,
    F_is_between := F_is_between,
    b_is_between := b_is_between,
    g_is_between := PySem.W.mg_of X G a_is_between,
    a_is_map := f_is_map,
    d_is_map := _,
    F_is_map := F_is_map,
    b_is_map := b_is_map,
    g_is_map := PySem.W.mg_of X G a_is_map,
    a_Turns_init := f_Turns_init,
    d_Turns_init := _,
    F_Turns_init := F_Turns_init,
    b_Turns_init := b_Turns_init,
    a_Turns_len := f_Turns_len,
    d_Turns_len := _,
    F_Turns_len := F_Turns_len,
    b_Turns_len := b_Turns_len,
    a_check_signs := f_check_signs,
    d_check_signs := _,
    F_check_signs := F_check_signs,
    b_check_signs := b_check_signs,
    g_check_signs := PySem.W.mg_of X G a_check_signs,
    a_is_pair := f_is_pair,
    d_is_pair := _,
    F_is_pair := F_is_pair,
    b_is_pair := b_is_pair,
    g_is_pair := PySem.W.mg_of X G a_is_pair,
    a_above := f_above,
    d_above := _,
    F_above := F_above,
    b_above := b_above,
    g_above := PySem.W.mg_of X G a_above,
    a_Order_init := f_Order_init,
    d_Order_init := _,
    F_Order_init := F_Order_init,
    b_Order_init := b_Order_init,
    a_Order_len := f_Order_len,
    d_Order_len := _,
    F_Order_len := F_Order_len,
    b_Order_len := b_Order_len,
    a_Order_at_most := f_Order_at_most,
    d_Order_at_most := _,
    F_Order_at_most := F_Order_at_most,
    b_Order_at_most := b_Order_at_most,
    a_Order_least := f_Order_least,
    d_Order_least := _,
    F_Order_least := F_Order_least,
    b_Order_least := b_Order_least,
    a_Order_greatest := f_Order_greatest,
    d_Order_greatest := _,
    F_Order_greatest := F_Order_greatest,
    b_Order_greatest := b_Order_greatest,
    a_not_kept := f_not_kept,
    d_not_kept := _,
    F_not_kept := F_not_kept,
    b_not_kept := b_not_kept,
    g_not_kept := PySem.W.mg_of X G a_not_kept,
    a_NotKept_init := f_NotKept_init,
    d_NotKept_init := _,
    F_NotKept_init := F_NotKept_init,
    b_NotKept_init := b_NotKept_init,
    a_drawn_between := f_drawn_between,
    d_drawn_between := _,
    F_drawn_between := F_drawn_between,
    b_drawn_between := b_drawn_between,
    g_drawn_between := PySem.W.mg_of X G a_drawn_between,
    a__law_well := f__law_well,
    d__law_well := _,
    F__law_well := F__law_well,
    b__law_well := b__law_well,
    g__law_well := PySem.W.mg_of X G a__law_well,
    a__law_draw := f__law_draw,
    d__law_draw := _,
    F__law_draw := F__law_draw,
    b__law_draw := b__law_draw,
    g__law_draw := PySem.W.mg_of X G a__law_draw,
    a__law_above := f__law_above,
    d__law_above := _,
    F__law_above := F__law_above,
    b__law_above := b__law_above,
    g__law_above := PySem.W.mg_of X G a__law_above,
    a__law_ranking := f__law_ranking,
    d__law_ranking := _,
    F__law_ranking := F__law_ranking,
    b__law_ranking := b__law_ranking,
    g__law_ranking := PySem.W.mg_of X G a__law_ranking,
    a__law_pairs := f__law_pairs,
    d__law_pairs := _,
    F__law_pairs := F__law_pairs,
    b__law_pairs := b__law_pairs,
    g__law_pairs := PySem.W.mg_of X G a__law_pairs,
    a__law_step := f__law_step,
    d__law_step := _,
    F__law_step := F__law_step,
    b__law_step := b__law_step,
    g__law_step := PySem.W.mg_of X G a__law_step,
    a__law_told := f__law_told,
    d__law_told := _,
    F__law_told := F__law_told,
    b__law_told := b__law_told,
    g__law_told := PySem.W.mg_of X G a__law_told,
    a__law_orders_right := f__law_orders_right,
    d__law_orders_right := _,
    F__law_orders_right := F__law_orders_right,
    b__law_orders_right := b__law_orders_right,
    g__law_orders_right := PySem.W.mg_of X G a__law_orders_right,
    a__law_kept_right := f__law_kept_right,
    d__law_kept_right := _,
    F__law_kept_right := F__law_kept_right,
    b__law_kept_right := b__law_kept_right,
    g__law_kept_right := PySem.W.mg_of X G a__law_kept_right,
    a_law := f_law,
    d_law := _,
    F_law := F_law,
    b_law := b_law,
    g_law := PySem.W.mg_of X G a_law,
    C_Order := C_Order,
    cl_Order := ⟨pg_Order, hd_Order, po_Order, sa_Order⟩,
    g_Order := PySem.W.mg_of X G aC_Order,
    mk_Order := ⟨mk_Order, a_Order_init, i_Order_init, kc_Order⟩,
    C_Turns := C_Turns,
    cl_Turns := ⟨pg_Turns, hd_Turns, po_Turns, sa_Turns⟩,
    g_Turns := PySem.W.mg_of X G aC_Turns,
    mk_Turns := ⟨mk_Turns, a_Turns_init, i_Turns_init, kc_Turns⟩,
    C_DrawError := C_DrawError,
    g_DrawError := PySem.W.mg_of X G aC_DrawError,
    base_DrawError := ⟨bg_DrawError, br_DrawError, bt_DrawError, bi_DrawError⟩,
    C_NotKept := C_NotKept,
    g_NotKept := PySem.W.mg_of X G aC_NotKept,
    oex_NotKept := ⟨⟨_, _, _, _, _, _, _, _, _, _, _, _, _, _, _, xL_NotKept, xv_NotKept⟩, xsa_NotKept, xec_NotKept, xty_NotKept, xkc_NotKept⟩,
    ii_NotKept := a_NotKept_init,
    tf_NotKept := xtf_NotKept,
    xf_NotKept := ⟨xga_NotKept, xgg_NotKept, xec_NotKept, xhd_NotKept⟩,
    nf_NotKept := xnf_NotKept,
    te_NotKept := exm_self xec_NotKept xic_NotKept xty_NotKept xsc_NotKept,
    C_NoEnds := C_NoEnds,
    g_NoEnds := PySem.W.mg_of X G aC_NoEnds,
    xp_NoEnds := xp_NoEnds,
    xk_NoEnds := xkc_NoEnds,
    xe_NoEnds := xec_NoEnds,
    xt_NoEnds := xty_NoEnds,
    te_NoEnds := exm_self xec_NoEnds xic_NoEnds xty_NoEnds xsc_NoEnds,
    tm_NoEnds_NotKept := exm_at xec_NotKept xic_NotKept xty_NotKept xm_NoEnds_NotKept,
    m_Order_len := ⟨a_Order_len, i_Order_len, k_Order_len⟩,
    m_Order_at_most := ⟨a_Order_at_most, i_Order_at_most, k_Order_at_most⟩,
    m_Order_greatest := ⟨a_Order_greatest, i_Order_greatest, k_Order_greatest⟩,
    m_Order_least := ⟨a_Order_least, i_Order_least, k_Order_least⟩,
    m_Turns_len := ⟨a_Turns_len, i_Turns_len, k_Turns_len⟩,
    na_Order_higher := na_Order_higher,
    na_Turns_many := na_Turns_many,
    na_Turns_maps := na_Turns_maps,
    z_all := PySem.W.mg_none_of X G z_all,
    z_any := PySem.W.mg_none_of X G z_any,
    z_bool := PySem.W.mg_none_of X G z_bool,
    z_enumerate := PySem.W.mg_none_of X G z_enumerate,
    z_int := PySem.W.mg_none_of X G z_int,
    z_isinstance := PySem.W.mg_none_of X G z_isinstance,
    z_len := PySem.W.mg_none_of X G z_len,
    z_list := PySem.W.mg_none_of X G z_list,
    z_max := PySem.W.mg_none_of X G z_max,
    z_min := PySem.W.mg_none_of X G z_min,
    z_range := PySem.W.mg_none_of X G z_range,
    z_set := PySem.W.mg_none_of X G z_set,
    z_sorted := PySem.W.mg_none_of X G z_sorted,
    z_tuple := PySem.W.mg_none_of X G z_tuple,
    t_MOST_PLACES_orders := t_MOST_PLACES_orders,
    c_MOST_PLACES_orders := PySem.W.mg_of X G g_MOST_PLACES_orders,
    t_MOST_PLACES_turns := t_MOST_PLACES_turns,
    c_MOST_PLACES_turns := PySem.W.mg_of X G g_MOST_PLACES_turns,
    t_MOST_SIGNS := t_MOST_SIGNS,
    c_MOST_SIGNS := PySem.W.mg_of X G g_MOST_SIGNS }
  refine ⟨_, fun s v => ?bb, fun base _ _ => ok_law T⟩
  case bb => exact .of_eq rfl
theorem walk {l : PySem.W.OpenLaw} {q : Program} {loose : List Str} {XP : (Str → Option Value) → Heap → Prop} {YP : World → Heap → Prop} {d : DefRec} {K : Params → PySem.W.Frag} (hn : l.most = some 63) (hdf : d.params.defaults = [])
    (hY : ∀ (w : World) (h : Heap), YP w h → (K w.params).In h)
    (F : ∀ (w : World) (mg : Str → Option Value) (fa : Addr) (h : Heap), (K w.params).In h → h.Ns mainGlobals mg → mg d.name = some (.ref fa) →
      ∃ fd : FuncData, (∀ (s : Shared) (u : Value), BindsTo s fd ⟨[u], []⟩ [("_law_script", u)]) ∧ ∀ base : Heap, (K w.params).In base → base.Ns mainGlobals mg → FnOk l.prog w (K w.params) mg base CX0 6 fa fd ["_law_script"] (spLaw (K w.params))) :
    PySem.W.WalkO q loose XP YP l.row.toRowW d [] (fun f vs => PySem.call f vs) :=
  L2.walk_of (n := 63) (k := 6) (x := "_law_script") (CX := fun _ => CX0) (sp := fun w => spLaw (K w.params)) hn (by decide) hdf ⟨rfl, by decide, by decide⟩ hY F (fun _ _ a ns hl _ hS => ⟨a, ns, rfl, hS, hl, fun _ => rfl⟩) fun _ _ _ _ _ z => z
end K85
open PySem PySem.W PyProof.Rows
set_option maxRecDepth 100000 in
set_option maxHeartbeats 0 in
theorem PySem.Challenge.cw_elderdraw_k85_whole_orders_turned_about_holds : PySem.Challenge.rw_elderdraw_k85_whole_orders_turned_about.Holds := by
  w_on; o_law; k_head; (case hw => w_witness2)
  k_fill
  refine K85.walk (l := PySem.Challenge.rw_elderdraw_k85_whole_orders_turned_about) rfl rfl (fun w h Y => PySem.W.kIn_of Y) ?F
  case F =>
    intro w mg fa h KX G hmg
    refine' K85.all_mk KX G hmg ?aC_Order ?aC_Turns ?aC_DrawError ?aC_NotKept ?aC_NoEnds ?a_is_whole ?l_is_whole ?c_is_whole ?k_is_whole ?a_is_between ?l_is_between ?c_is_between ?k_is_between ?a_is_map ?l_is_map ?c_is_map ?k_is_map ?a_Turns_init ?i_Turns_init ?l_Turns_init ?c_Turns_init ?k_Turns_init ?a_Turns_len ?i_Turns_len ?l_Turns_len ?c_Turns_len ?k_Turns_len ?a_check_signs ?l_check_signs ?c_check_signs ?k_check_signs ?a_is_pair ?l_is_pair ?c_is_pair ?k_is_pair ?a_above ?l_above ?c_above ?k_above ?a_Order_init ?i_Order_init ?l_Order_init ?c_Order_init ?k_Order_init ?a_Order_len ?i_Order_len ?l_Order_len ?c_Order_len ?k_Order_len ?a_Order_at_most ?i_Order_at_most ?l_Order_at_most ?c_Order_at_most ?k_Order_at_most ?a_Order_least ?i_Order_least ?l_Order_least ?c_Order_least ?k_Order_least ?a_Order_greatest ?i_Order_greatest ?l_Order_greatest ?c_Order_greatest ?k_Order_greatest ?a_not_kept ?l_not_kept ?c_not_kept ?k_not_kept ?a_NotKept_init ?i_NotKept_init ?l_NotKept_init ?c_NotKept_init ?k_NotKept_init ?a_drawn_between ?l_drawn_between ?c_drawn_between ?k_drawn_between ?a__law_well ?l__law_well ?c__law_well ?k__law_well ?a__law_draw ?l__law_draw ?c__law_draw ?k__law_draw ?a__law_above ?l__law_above ?c__law_above ?k__law_above ?a__law_ranking ?l__law_ranking ?c__law_ranking ?k__law_ranking ?a__law_pairs ?l__law_pairs ?c__law_pairs ?k__law_pairs ?a__law_step ?l__law_step ?c__law_step ?k__law_step ?a__law_told ?l__law_told ?c__law_told ?k__law_told ?a__law_orders_right ?l__law_orders_right ?c__law_orders_right ?k__law_orders_right ?a__law_kept_right ?l__law_kept_right ?c__law_kept_right ?k__law_kept_right ?a_law ?l_law ?c_law ?k_law ?pg_Order ?hd_Order ?po_Order ?sa_Order ?kc_Order ?mk_Order ?pg_Turns ?hd_Turns ?po_Turns ?sa_Turns ?kc_Turns ?mk_Turns ?bg_DrawError ?br_DrawError ?bt_DrawError ?bi_DrawError ?xL_NotKept ?xv_NotKept ?xsa_NotKept ?xec_NotKept ?xty_NotKept ?xkc_NotKept ?xtf_NotKept ?xga_NotKept ?xgg_NotKept ?xhd_NotKept ?xnf_NotKept ?xic_NotKept ?xsc_NotKept ?xp_NoEnds ?xkc_NoEnds ?xec_NoEnds ?xty_NoEnds ?xic_NoEnds ?xsc_NoEnds ?xm_NoEnds_NotKept ?na_Order_higher ?na_Turns_many ?na_Turns_maps ?z_all ?z_any ?z_bool ?z_enumerate ?z_int ?z_isinstance ?z_len ?z_list ?z_max ?z_min ?z_range ?z_set ?z_sorted ?z_tuple ?g_MOST_PLACES_orders ?g_MOST_PLACES_turns ?g_MOST_SIGNS
    (case aC_Order => k_is)
    (case aC_Turns => k_is)
    (case aC_DrawError => k_is)
    (case aC_NotKept => k_is)
    (case aC_NoEnds => k_is)
    (case a_is_whole => k_is)
    (case l_is_whole => k_is)
    (case c_is_whole => k_is)
    (case k_is_whole => k_is)
    (case a_is_between => k_is)
    (case l_is_between => k_is)
    (case c_is_between => k_is)
    (case k_is_between => k_is)
    (case a_is_map => k_is)
    (case l_is_map => k_is)
    (case c_is_map => k_is)
    (case k_is_map => k_is)
    (case a_Turns_init => k_is)
    (case i_Turns_init => k_is)
    (case l_Turns_init => k_is)
    (case c_Turns_init => k_is)
    (case k_Turns_init => k_is)
    (case a_Turns_len => k_is)
    (case i_Turns_len => k_is)
    (case l_Turns_len => k_is)
    (case c_Turns_len => k_is)
    (case k_Turns_len => k_is)
    (case a_check_signs => k_is)
    (case l_check_signs => k_is)
    (case c_check_signs => k_is)
    (case k_check_signs => k_is)
    (case a_is_pair => k_is)
    (case l_is_pair => k_is)
    (case c_is_pair => k_is)
    (case k_is_pair => k_is)
    (case a_above => k_is)
    (case l_above => k_is)
    (case c_above => k_is)
    (case k_above => k_is)
    (case a_Order_init => k_is)
    (case i_Order_init => k_is)
    (case l_Order_init => k_is)
    (case c_Order_init => k_is)
    (case k_Order_init => k_is)
    (case a_Order_len => k_is)
    (case i_Order_len => k_is)
    (case l_Order_len => k_is)
    (case c_Order_len => k_is)
    (case k_Order_len => k_is)
    (case a_Order_at_most => k_is)
    (case i_Order_at_most => k_is)
    (case l_Order_at_most => k_is)
    (case c_Order_at_most => k_is)
    (case k_Order_at_most => k_is)
    (case a_Order_least => k_is)
    (case i_Order_least => k_is)
    (case l_Order_least => k_is)
    (case c_Order_least => k_is)
    (case k_Order_least => k_is)
    (case a_Order_greatest => k_is)
    (case i_Order_greatest => k_is)
    (case l_Order_greatest => k_is)
    (case c_Order_greatest => k_is)
    (case k_Order_greatest => k_is)
    (case a_not_kept => k_is)
    (case l_not_kept => k_is)
    (case c_not_kept => k_is)
    (case k_not_kept => k_is)
    (case a_NotKept_init => k_is)
    (case i_NotKept_init => k_is)
    (case l_NotKept_init => k_is)
    (case c_NotKept_init => k_is)
    (case k_NotKept_init => k_is)
    (case a_drawn_between => k_is)
    (case l_drawn_between => k_is)
    (case c_drawn_between => k_is)
    (case k_drawn_between => k_is)
    (case a__law_well => k_is)
    (case l__law_well => k_is)
    (case c__law_well => k_is)
    (case k__law_well => k_is)
    (case a__law_draw => k_is)
    (case l__law_draw => k_is)
    (case c__law_draw => k_is)
    (case k__law_draw => k_is)
    (case a__law_above => k_is)
    (case l__law_above => k_is)
    (case c__law_above => k_is)
    (case k__law_above => k_is)
    (case a__law_ranking => k_is)
    (case l__law_ranking => k_is)
    (case c__law_ranking => k_is)
    (case k__law_ranking => k_is)
    (case a__law_pairs => k_is)
    (case l__law_pairs => k_is)
    (case c__law_pairs => k_is)
    (case k__law_pairs => k_is)
    (case a__law_step => k_is)
    (case l__law_step => k_is)
    (case c__law_step => k_is)
    (case k__law_step => k_is)
    (case a__law_told => k_is)
    (case l__law_told => k_is)
    (case c__law_told => k_is)
    (case k__law_told => k_is)
    (case a__law_orders_right => k_is)
    (case l__law_orders_right => k_is)
    (case c__law_orders_right => k_is)
    (case k__law_orders_right => k_is)
    (case a__law_kept_right => k_is)
    (case l__law_kept_right => k_is)
    (case c__law_kept_right => k_is)
    (case k__law_kept_right => k_is)
    (case a_law => k_is)
    (case l_law => k_is)
    (case c_law => k_is)
    (case k_law => k_is)
    (case pg_Order => k_is)
    (case hd_Order => k_is)
    (case po_Order => k_is)
    (case sa_Order => k_is)
    (case kc_Order => k_is)
    (case mk_Order => k_is)
    (case pg_Turns => k_is)
    (case hd_Turns => k_is)
    (case po_Turns => k_is)
    (case sa_Turns => k_is)
    (case kc_Turns => k_is)
    (case mk_Turns => k_is)
    (case bg_DrawError => k_is)
    (case br_DrawError => k_is)
    (case bt_DrawError => k_is)
    (case bi_DrawError => k_is)
    (case xL_NotKept => k_is)
    (case xv_NotKept => decide +kernel)
    (case xsa_NotKept => k_is)
    (case xec_NotKept => k_is)
    (case xty_NotKept => k_is)
    (case xkc_NotKept => k_is)
    (case xtf_NotKept => k_is)
    (case xga_NotKept => k_is)
    (case xgg_NotKept => k_is)
    (case xhd_NotKept => k_is)
    (case xnf_NotKept => k_is)
    (case xic_NotKept => k_is)
    (case xsc_NotKept => first | rfl | k_is)
    (case xp_NoEnds => k_exc)
    (case xkc_NoEnds => k_is)
    (case xec_NoEnds => k_is)
    (case xty_NoEnds => k_is)
    (case xic_NoEnds => k_is)
    (case xsc_NoEnds => first | rfl | k_is)
    (case xm_NoEnds_NotKept => k_is)
    (case na_Order_higher => k_is)
    (case na_Turns_many => k_is)
    (case na_Turns_maps => k_is)
    (case z_all => k_is)
    (case z_any => k_is)
    (case z_bool => k_is)
    (case z_enumerate => k_is)
    (case z_int => k_is)
    (case z_isinstance => k_is)
    (case z_len => k_is)
    (case z_list => k_is)
    (case z_max => k_is)
    (case z_min => k_is)
    (case z_range => k_is)
    (case z_set => k_is)
    (case z_sorted => k_is)
    (case z_tuple => k_is)
    (case g_MOST_PLACES_orders => k_is)
    (case g_MOST_PLACES_turns => k_is)
    (case g_MOST_SIGNS => k_is)

